import PyProof.Rows.All
import Wide.All
import OpenK.AllK
import Wide.FinOn
import HandS.ForMost
import HandS.ForExc
import HandS.Walk
import KE.DataEq
import HandS.Wide
import HandS.TupAny
import HandS.TupMul
import HandS.Zip
import HandS.Style
import HandS.Rev
import KE.GoesEnum
import PyProof.EnumMake
import HandS.IsInst
import HandS.SortInts
import HandS.Ends
import HandS.Conv
import HandS.SetFor
import HandS.Strs
import HandS.ExcIs
import KE.SortData
import KE.DataMinMax
import PySem.Challenge.RW_captionshifts_k10_whole_wished_ranges_by
set_option Elab.async false
set_option linter.all false
set_option maxRecDepth 100000
namespace Mi
open PySem PySem.Spec L2

abbrev D := PyData
inductive Slot where
  | un
  | fz (d : D)
  | ow (d : D)
abbrev Rho := List Slot
inductive Res (α : Type) where
  | ok (a : α) (ρ : Rho)
  | ex (n : Str) (ρ : Rho)
  | bad
def Res.bind {α β : Type} : Res α → (α → Rho → Res β) → Res β
  | .ok a ρ, k => k a ρ
  | .ex n ρ, _ => .ex n ρ
  | .bad, _ => .bad
@[simp] theorem Res.bind_ok {α β : Type} (a : α) (ρ : Rho) (k : α → Rho → Res β) : (Res.ok a ρ).bind k = k a ρ := rfl
@[simp] theorem Res.bind_ex {α β : Type} (n : Str) (ρ : Rho) (k : α → Rho → Res β) : (Res.ex n ρ).bind k = .ex n ρ := rfl
@[simp] theorem Res.bind_bad {α β : Type} (k : α → Rho → Res β) : (Res.bad : Res α).bind k = .bad := rfl

def keyD : Key → D
  | .inl i => .int i
  | .inr s => .str s
def keysD (ks : List Key) : D := .tuple (ks.map keyD)
/-- the entries of a dict: keys, values -/
def entD {κ : Type} (f : κ → D) (kvs : List (κ × V)) (ds : List D) : List (D × D) := (kvs.map fun p => f p.1).zip ds
mutual
/-- frozen data: lists, tuples, locked dicts that F tracks; the script, told as a dict of one row; a def, an exception, told as such -/
inductive Dn (K : PySem.W.Frag) (F : Hp) : V → D → Prop
  | non : Dn K F .non .none
  | bl (b : Bool) : Dn K F (.bl b) (.bool b)
  | int (i : Int) : Dn K F (.int i) (.int i)
  | str (x : Str) : Dn K F (.str x) (.str x)
  | lst {a : Addr} {xs : List V} {ds : List D} : F a = some (.lst xs) → DnAll K F xs ds → Dn K F (.ref a) (.list ds)
  | tup {a : Addr} {xs : List V} {ds : List D} : F a = some (.tup xs) → DnAll K F xs ds → Dn K F (.ref a) (.tuple ds)
  | scr {a : Addr} {ns : List Int} : SqL K F a (ns.map V.int) → Dn K F (.ref a) (.dict [(.bool true, .list (ns.map PyData.int))])
  | dK {a : Addr} {o : Obj} {kvs : List (Key × V)} {ds : List D} {es : List (D × D)} : F a = some (.frz o (.dK kvs)) → DnAll K F (kvs.map Prod.snd) ds → es = (.bool false, .none) :: entD keyD kvs ds → Dn K F (.ref a) (.dict es)
  | dT {a : Addr} {o : Obj} {kvs : List (List Key × V)} {ds : List D} {es : List (D × D)} : F a = some (.frz o (.dT kvs)) → DnAll K F (kvs.map Prod.snd) ds → es = (.bool true, .none) :: entD keysD kvs ds → Dn K F (.ref a) (.dict es)
  | fn {a : Addr} {x : Str} : PySem.W.nsIn K mainGlobals x = some (some (.ref a)) → Dn K F (.ref a) (.dict [(.bool false, .str x)])
  | exc (a : Addr) (n : Str) : Dn K F (.ref a) (.dict [(.none, .str n), (.none, .int a)])
inductive DnAll (K : PySem.W.Frag) (F : Hp) : List V → List D → Prop
  | nil : DnAll K F [] []
  | cons {v : V} {vs : List V} {d : D} {ds : List D} : Dn K F v d → DnAll K F vs ds → DnAll K F (v :: vs) (d :: ds)
end
mutual
theorem dn_same {K : PySem.W.Frag} {F F' : Hp} (e : Same F F') : ∀ {v : V} {d : D}, Dn K F v d → Dn K F' v d
  | _, _, .non => .non
  | _, _, .bl b => .bl b
  | _, _, .int i => .int i
  | _, _, .str x => .str x
  | _, _, .lst h t => .lst (e _ _ h) (dna_same e t)
  | _, _, .tup h t => .tup (e _ _ h) (dna_same e t)
  | _, _, .scr h => .scr (e.seq h)
  | _, _, .dK h t q => .dK (e _ _ h) (dna_same e t) q
  | _, _, .dT h t q => .dT (e _ _ h) (dna_same e t) q
  | _, _, .fn h => .fn h
  | _, _, .exc a n => .exc a n
theorem dna_same {K : PySem.W.Frag} {F F' : Hp} (e : Same F F') : ∀ {vs : List V} {ds : List D}, DnAll K F vs ds → DnAll K F' vs ds
  | _, _, .nil => .nil
  | _, _, .cons h t => .cons (dn_same e h) (dna_same e t)
end
mutual
theorem dn_dp {K : PySem.W.Frag} {F H : Hp} (e : Same F H) : ∀ {v : V} {d : D}, Dn K F v d → d.plain = true → Dp K H v d
  | _, _, .non, _ => .non
  | _, _, .bl b, _ => .bl b
  | _, _, .int i, _ => .int i
  | _, _, .str x, _ => .str x
  | _, _, .lst h t, p => .lst (.inl (.inl (e _ _ h))) (dna_dp e t (by simpa [PyData.plain] using p))
  | _, _, .tup h t, p => .tup (.inl (.inl (e _ _ h))) (dna_dp e t (by simpa [PyData.plain] using p))
  | _, _, .scr h, p => by simp [PyData.plain] at p
  | _, _, .dK _ _ _, p => by simp [PyData.plain] at p
  | _, _, .dT _ _ _, p => by simp [PyData.plain] at p
  | _, _, .fn _, p => by simp [PyData.plain] at p
  | _, _, .exc _ _, p => by simp [PyData.plain] at p
theorem dna_dp {K : PySem.W.Frag} {F H : Hp} (e : Same F H) : ∀ {vs : List V} {ds : List D}, DnAll K F vs ds → PyData.plainAll ds = true → DpAll K H vs ds
  | _, _, .nil, _ => .nil
  | _, _, .cons h t, p => .cons (dn_dp e h (Bool.and_eq_true_iff.mp p).1) (dna_dp e t (Bool.and_eq_true_iff.mp p).2)
end
theorem dna_len {K : PySem.W.Frag} {F : Hp} : ∀ {vs : List V} {ds : List D}, DnAll K F vs ds → vs.length = ds.length
  | _, _, .nil => rfl
  | _, _, .cons _ t => by rw [List.length_cons, List.length_cons, dna_len t]
theorem dna_get {K : PySem.W.Frag} {F : Hp} : ∀ {vs : List V} {ds : List D} {i : Nat} {d : D}, DnAll K F vs ds → ds[i]? = some d → ∃ v, vs[i]? = some v ∧ Dn K F v d
  | _, _, _, _, .nil, e => by simp at e
  | _, _, 0, _, .cons h _, e => by
    have e' := Option.some.inj (show some _ = some _ from e)
    exact ⟨_, rfl, e' ▸ h⟩
  | _, _, i + 1, _, .cons _ t, e => by
    obtain ⟨v, h1, h2⟩ := dna_get (i := i) t (show _ = _ from e)
    exact ⟨v, h1, h2⟩
theorem dna_getV {K : PySem.W.Frag} {F : Hp} : ∀ {vs : List V} {ds : List D} {i : Nat} {v : V}, DnAll K F vs ds → vs[i]? = some v → ∃ d, ds[i]? = some d ∧ Dn K F v d
  | _, _, _, _, .nil, e => by simp at e
  | _, _, 0, _, .cons h _, e => by
    have e' := Option.some.inj (show some _ = some _ from e)
    exact ⟨_, rfl, e' ▸ h⟩
  | _, _, i + 1, _, .cons _ t, e => by
    obtain ⟨v, h1, h2⟩ := dna_getV (i := i) t (show _ = _ from e)
    exact ⟨v, h1, h2⟩
theorem dna_app {K : PySem.W.Frag} {F : Hp} : ∀ {vs ws : List V} {ds es : List D}, DnAll K F vs ds → DnAll K F ws es → DnAll K F (vs ++ ws) (ds ++ es)
  | _, _, _, _, .nil, h => h
  | _, _, _, _, .cons h t, h' => .cons h (dna_app t h')
theorem dna_take {K : PySem.W.Frag} {F : Hp} : ∀ {vs : List V} {ds : List D} (n : Nat), DnAll K F vs ds → DnAll K F (vs.take n) (ds.take n)
  | _, _, 0, _ => by rw [List.take_zero, List.take_zero]; exact .nil
  | _, _, _ + 1, .nil => .nil
  | _, _, n + 1, .cons h t => .cons h (dna_take n t)
theorem dna_drop {K : PySem.W.Frag} {F : Hp} : ∀ {vs : List V} {ds : List D} (n : Nat), DnAll K F vs ds → DnAll K F (vs.drop n) (ds.drop n)
  | _, _, 0, h => h
  | _, _, _ + 1, .nil => .nil
  | _, _, n + 1, .cons _ t => dna_drop n t
theorem dna_set {K : PySem.W.Frag} {F : Hp} {v : V} {d : D} (h0 : Dn K F v d) : ∀ {vs : List V} {ds : List D} (n : Nat), DnAll K F vs ds → DnAll K F (vs.set n v) (ds.set n d)
  | _, _, _, .nil => .nil
  | _, _, 0, .cons _ t => .cons h0 t
  | _, _, n + 1, .cons h t => .cons h (dna_set h0 n t)
theorem dna_rev {K : PySem.W.Frag} {F : Hp} : ∀ {vs : List V} {ds : List D}, DnAll K F vs ds → DnAll K F vs.reverse ds.reverse
  | _, _, .nil => .nil
  | _, _, .cons h t => by
    rw [List.reverse_cons, List.reverse_cons]
    exact dna_app (dna_rev t) (.cons h .nil)
theorem dna_eraseIdx {K : PySem.W.Frag} {F : Hp} : ∀ {vs : List V} {ds : List D} (n : Nat), DnAll K F vs ds → DnAll K F (vs.eraseIdx n) (ds.eraseIdx n)
  | _, _, _, .nil => .nil
  | _, _, 0, .cons _ t => t
  | _, _, n + 1, .cons h t => .cons h (dna_eraseIdx n t)
theorem dna_ints {K : PySem.W.Frag} {F : Hp} : ∀ {vs : List V} {ns : List Int}, DnAll K F vs (ns.map PyData.int) → vs = ns.map V.int
  | _, [], .nil => rfl
  | _, n :: r, .cons (.int _) t => by rw [List.map_cons, dna_ints t]
theorem dna_of_ints {K : PySem.W.Frag} {F : Hp} : ∀ (ns : List Int), DnAll K F (ns.map V.int) (ns.map PyData.int)
  | [] => .nil
  | n :: r => .cons (.int n) (dna_of_ints r)
theorem dna_bools {K : PySem.W.Frag} {F : Hp} : ∀ {vs : List V} {ns : List Bool}, DnAll K F vs (ns.map PyData.bool) → vs = ns.map V.bl
  | _, [], .nil => rfl
  | _, n :: r, .cons (.bl _) t => by rw [List.map_cons, dna_bools t]
theorem dna_strs {K : PySem.W.Frag} {F : Hp} : ∀ {vs : List V} {ns : List Str}, DnAll K F vs (ns.map PyData.str) → vs = ns.map V.str
  | _, [], .nil => rfl
  | _, n :: r, .cons (.str _) t => by rw [List.map_cons, dna_strs t]
theorem dna_replicate {K : PySem.W.Frag} {F : Hp} {v : V} {d : D} (h : Dn K F v d) : ∀ n, DnAll K F (List.replicate n v) (List.replicate n d)
  | 0 => .nil
  | n + 1 => .cons h (dna_replicate h n)

def scrOf : List (D × D) → Option (List D)
  | [(.bool true, .list xs)] => some xs
  | _ => none
theorem keyD_ne {k : Key} : (keyD k ≠ .none) ∧ ∀ b, keyD k ≠ .bool b := by cases k <;> exact ⟨(fun h => nomatch h), (fun _ h => nomatch h)⟩
theorem dn_scr {K : PySem.W.Frag} {F : Hp} {v : V} {es : List (D × D)} {xs : List D} (h : Dn K F v (.dict es)) (e : scrOf es = some xs) : ∃ (a : Addr) (ns : List Int), v = .ref a ∧ xs = ns.map PyData.int ∧ SqL K F a (ns.map V.int) := by
  unfold scrOf at e
  split at e
  · cases e
    cases h with
    | scr q => exact ⟨_, _, rfl, rfl, q⟩
    | @dK a o kvs ds _ hF t q => exact nomatch congrArg Prod.snd (List.cons.inj q).1
    | @dT a o kvs ds _ hF t q => exact nomatch congrArg Prod.snd (List.cons.inj q).1
  · cases e
/-- an own list, an own dict: its content in H, the items frozen -/
inductive OwnD (K : PySem.W.Frag) (F H : Hp) (a : Addr) : D → Prop
  | lst {vs : List V} {ds : List D} : F a = none → H a = some (.lst vs) → DnAll K F vs ds → OwnD K F H a (.list ds)
  | dK {kvs : List (Key × V)} {ds : List D} {es : List (D × D)} : F a = none → H a = some (.dK kvs) → DnAll K F (kvs.map Prod.snd) ds → es = (.bool false, .none) :: entD keyD kvs ds → OwnD K F H a (.dict es)
  | dT {kvs : List (List Key × V)} {ds : List D} {es : List (D × D)} : F a = none → H a = some (.dT kvs) → DnAll K F (kvs.map Prod.snd) ds → es = (.bool true, .none) :: entD keysD kvs ds → OwnD K F H a (.dict es)
theorem OwnD.nf {K : PySem.W.Frag} {F H : Hp} {a : Addr} {d : D} : OwnD K F H a d → F a = none
  | .lst h _ _ => h
  | .dK h _ _ _ => h
  | .dT h _ _ _ => h
theorem OwnD.has {K : PySem.W.Frag} {F H : Hp} {a : Addr} {d : D} : OwnD K F H a d → ∃ o, H a = some o
  | .lst _ h _ => ⟨_, h⟩
  | .dK _ h _ _ => ⟨_, h⟩
  | .dT _ h _ _ => ⟨_, h⟩
theorem OwnD.mono {K : PySem.W.Frag} {F F' H H' : Hp} {a : Addr} {d : D} (ff : Same F F') (fa : F' a = none) (ha : ∀ o, H a = some o → H' a = some o) : OwnD K F H a d → OwnD K F' H' a d
  | .lst _ h t => .lst fa (ha _ h) (dna_same ff t)
  | .dK _ h t q => .dK fa (ha _ h) (dna_same ff t) q
  | .dT _ h t q => .dT fa (ha _ h) (dna_same ff t) q

/-- new, or a tuple (which never changes) -/
def Nw (H : Hp) (a : Addr) : Prop := H a = none ∨ ∃ xs, H a = some (.tup xs)
theorem Nw.lst {H : Hp} {a : Addr} {vs : List V} (h : H a = some (.lst vs)) (z : Nw H a) : False := by
  rcases z with z | ⟨xs, z⟩ <;> rw [h] at z <;> cases z
theorem OwnD.nw {K : PySem.W.Frag} {F H : Hp} {a : Addr} {d : D} (h : OwnD K F H a d) (z : Nw H a) : False := by
  cases h with
  | lst _ e _ => rcases z with z | ⟨xs, z⟩ <;> rw [e] at z <;> cases z
  | dK _ e _ _ => rcases z with z | ⟨xs, z⟩ <;> rw [e] at z <;> cases z
  | dT _ e _ _ => rcases z with z | ⟨xs, z⟩ <;> rw [e] at z <;> cases z
/-- what a reading knows of the def's entry: K and mg; the frozen part, the heap, the own parameters (slot, address) at the entry -/
structure Gh where
  K : PySem.W.Frag
  mg : Str → Option Value
  F0 : Hp
  H0 : Hp
  P : List (Nat × Addr)

def Owned (σ : St) (ρ : Rho) (a : Addr) : Prop := ∃ (i : Nat) (d : D), ρ[i]? = some (.ow d) ∧ σ[i]? = some (some (.ref a))

structure Ok (g : Gh) (F H : Hp) (σ : St) (ρ : Rho) : Prop where
  sub : Same F H
  f0 : Same g.F0 F
  fnew : ∀ a, F a ≠ none → g.F0 a ≠ none ∨ Nw g.H0 a
  keep : ∀ a o, g.H0 a = some o → (∀ i, (i, a) ∉ g.P) → H a = some o
  there : ∀ a, g.H0 a ≠ none → H a ≠ none
  len : σ.length = ρ.length
  fz : ∀ (i : Nat) (d : D), ρ[i]? = some (.fz d) → ∃ v, σ[i]? = some (some v) ∧ Dn g.K F v d
  ow : ∀ (i : Nat) (d : D), ρ[i]? = some (.ow d) → ∃ a, σ[i]? = some (some (.ref a)) ∧ OwnD g.K F H a d
  inj : ∀ (i j : Nat) (a : Addr) (d e : D), ρ[i]? = some (.ow d) → ρ[j]? = some (.ow e) → σ[i]? = some (some (.ref a)) → σ[j]? = some (some (.ref a)) → i = j
  own : ∀ (i : Nat) (a : Addr) (d : D), ρ[i]? = some (.ow d) → σ[i]? = some (some (.ref a)) → g.H0 a = none ∨ (i, a) ∈ g.P
  pin : ∀ (i : Nat) (a : Addr), (i, a) ∈ g.P → σ[i]? = some (some (.ref a)) ∧ ∃ d : D, ρ[i]? = some (.ow d)

/-- a step of an expression: what stood and is not owned stands, what is newly frozen did not stand -/
structure Step (σ : St) (ρ : Rho) (F H : Hp) (ρ' : Rho) (F' H' : Hp) : Prop where
  ff : Same F F'
  kp : ∀ a o, H a = some o → ¬ Owned σ ρ a → H' a = some o
  fn : ∀ a, F' a ≠ none → F a ≠ none ∨ Nw H a ∨ Owned σ ρ a
  th : ∀ a, H a ≠ none → H' a ≠ none
  sh : ∀ a, Owned σ ρ' a → Owned σ ρ a
theorem Step.rfl' {σ : St} {ρ : Rho} {F H : Hp} : Step σ ρ F H ρ F H := ⟨Same.refl _, fun _ _ h _ => h, fun _ h => .inl h, fun _ h => h, fun _ h => h⟩
theorem Step.nw {σ : St} {ρ ρ' : Rho} {F H F' H' : Hp} (s : Step σ ρ F H ρ' F' H') {a : Addr} (z : Nw H' a) : Nw H a ∨ Owned σ ρ a := by
  cases e : H a with
  | none => exact .inl (.inl e)
  | some o =>
    by_cases n : Owned σ ρ a
    · exact .inr n
    · have := s.kp a o e n
      rcases z with z | ⟨xs, z⟩
      · rw [this] at z; cases z
      · rw [this] at z; cases z
        exact .inl (.inr ⟨xs, e⟩)
theorem Step.trans {σ : St} {ρ ρ1 ρ2 : Rho} {F H F1 H1 F2 H2 : Hp} (a : Step σ ρ F H ρ1 F1 H1) (b : Step σ ρ1 F1 H1 ρ2 F2 H2) : Step σ ρ F H ρ2 F2 H2 where
  ff := a.ff.trans b.ff
  kp := fun x o h n => b.kp x o (a.kp x o h n) fun z => n (a.sh x z)
  fn := fun x h => by
    rcases b.fn x h with z | z | z
    · exact a.fn x z
    · exact .inr (a.nw z)
    · exact .inr (.inr (a.sh x z))
  th := fun x h => b.th x (a.th x h)
  sh := fun x h => a.sh x (b.sh x h)
theorem Step.gone {σ : St} {ρ ρ' : Rho} {F H F' H' : Hp} (s : Step σ ρ F H ρ' F' H') {a : Addr} (h : H' a = none) : H a = none := Classical.byContradiction fun n => s.th a n h
theorem same_new {F : Hp} {p : Addr} {o : HO} (h : F p = none) : Same F (upd F p o) := fun b x e => by
  rw [upd_ne (ne_of_none e h)]
  exact e
theorem Ok.nf {g : Gh} {F H : Hp} {σ : St} {ρ : Rho} (ok : Ok g F H σ ρ) {p : Addr} (h : H p = none) : F p = none := ok.sub.free h
theorem Ok.nh0 {g : Gh} {F H : Hp} {σ : St} {ρ : Rho} (ok : Ok g F H σ ρ) {p : Addr} (h : H p = none) : g.H0 p = none := Classical.byContradiction fun n => ok.there p n h
theorem Ok.nw0 {g : Gh} {F H : Hp} {σ : St} {ρ : Rho} (ok : Ok g F H σ ρ) {a : Addr} (z : Nw H a) : Nw g.H0 a := by
  cases e : g.H0 a with
  | none => exact .inl e
  | some o =>
    by_cases n : ∃ i, (i, a) ∈ g.P
    · obtain ⟨i, n⟩ := n
      obtain ⟨h1, d, h2⟩ := ok.pin i a n
      obtain ⟨a', h3, h4⟩ := ok.ow i d h2
      rw [h1] at h3
      cases h3
      exact (h4.nw z).elim
    · have := ok.keep a o e fun i h => n ⟨i, h⟩
      rcases z with z | ⟨xs, z⟩
      · rw [this] at z; cases z
      · rw [this] at z; cases z
        exact .inr ⟨xs, e⟩
theorem Ok.hasOwned {g : Gh} {F H : Hp} {σ : St} {ρ : Rho} (ok : Ok g F H σ ρ) {a : Addr} (h : Owned σ ρ a) : F a = none ∧ ∃ o, H a = some o := by
  obtain ⟨i, d, h1, h2⟩ := h
  obtain ⟨a', h3, h4⟩ := ok.ow i d h1
  rw [h2] at h3
  cases h3
  exact ⟨h4.nf, h4.has⟩
theorem Ok.notOwned {g : Gh} {F H : Hp} {σ : St} {ρ : Rho} (ok : Ok g F H σ ρ) {p : Addr} (h : H p = none) : ¬ Owned σ ρ p := fun z => by
  obtain ⟨_, o, e⟩ := ok.hasOwned z
  rw [h] at e
  cases e

section
variable {g : Gh} {F H : Hp} {σ : St} {ρ : Rho} {p : Addr} {o : HO}
/-- a new object, not frozen -/
theorem Ok.new (ok : Ok g F H σ ρ) (h : H p = none) : Ok g F (upd H p o) σ ρ where
  sub := ok.sub.trans (same_new h)
  f0 := ok.f0
  fnew := ok.fnew
  keep := fun a u e n => same_new h a u (ok.keep a u e n)
  there := fun a n => by
    by_cases e : a = p
    · subst e; rw [upd_same]; exact fun z => nomatch z
    · rw [upd_ne e]; exact ok.there a n
  len := ok.len
  fz := ok.fz
  ow := fun i d e => by
    obtain ⟨a, h1, h2⟩ := ok.ow i d e
    exact ⟨a, h1, h2.mono (Same.refl _) h2.nf fun u => same_new h a u⟩
  inj := ok.inj
  own := ok.own
  pin := ok.pin
theorem Step.new (h : H p = none) : Step σ ρ F H ρ F (upd H p o) where
  ff := Same.refl _
  kp := fun a u e _ => same_new h a u e
  fn := fun _ h => .inl h
  th := fun a n => by
    by_cases e : a = p
    · subst e; rw [upd_same]; exact fun z => nomatch z
    · rw [upd_ne e]; exact n
  sh := fun _ h => h
/-- a new object, frozen -/
theorem Ok.newF (ok : Ok g F H σ ρ) (h : H p = none) : Ok g (upd F p o) (upd H p o) σ ρ where
  sub := fun a u e => by
    by_cases z : a = p
    · subst z; rw [upd_same] at e ⊢; exact e
    · rw [upd_ne z] at e ⊢; exact ok.sub a u e
  f0 := ok.f0.trans (same_new (ok.nf h))
  fnew := fun a n => by
    by_cases z : a = p
    · subst z; exact .inr (.inl (ok.nh0 h))
    · rw [upd_ne z] at n; exact ok.fnew a n
  keep := fun a u e n => same_new h a u (ok.keep a u e n)
  there := (ok.new h).there
  len := ok.len
  fz := fun i d e => by
    obtain ⟨v, h1, h2⟩ := ok.fz i d e
    exact ⟨v, h1, dn_same (same_new (ok.nf h)) h2⟩
  ow := fun i d e => by
    obtain ⟨a, h1, h2⟩ := ok.ow i d e
    have ne : a ≠ p := fun z => by
      subst z
      obtain ⟨u, q⟩ := h2.has
      rw [h] at q; cases q
    exact ⟨a, h1, h2.mono (same_new (ok.nf h)) (by rw [upd_ne ne]; exact h2.nf) fun u => same_new h a u⟩
  inj := ok.inj
  own := ok.own
  pin := ok.pin
theorem Step.newF (hf : F p = none) (h : H p = none) : Step σ ρ F H ρ (upd F p o) (upd H p o) where
  ff := same_new hf
  kp := fun a u e _ => same_new h a u e
  fn := fun a n => by
    by_cases z : a = p
    · subst z; exact .inr (.inl (.inl h))
    · rw [upd_ne z] at n; exact .inl n
  th := (Step.new (σ := σ) (ρ := ρ) (F := F) h).th
  sh := fun _ h => h
/-- a fresh list is frozen -/
theorem Ok.frz (ok : Ok g F H σ ρ) (hh : H p = some o) (h0 : Nw g.H0 p) (hf : F p = none) (no : ¬ Owned σ ρ p) : Ok g (upd F p o) H σ ρ where
  sub := fun a u e => by
    by_cases z : a = p
    · subst z; rw [upd_same] at e; rw [← e]; exact hh
    · rw [upd_ne z] at e; exact ok.sub a u e
  f0 := ok.f0.trans (same_new hf)
  fnew := fun a n => by
    by_cases z : a = p
    · subst z; exact .inr h0
    · rw [upd_ne z] at n; exact ok.fnew a n
  keep := ok.keep
  there := ok.there
  len := ok.len
  fz := fun i d e => by
    obtain ⟨v, h1, h2⟩ := ok.fz i d e
    exact ⟨v, h1, dn_same (same_new hf) h2⟩
  ow := fun i d e => by
    obtain ⟨a, h1, h2⟩ := ok.ow i d e
    have ne : a ≠ p := fun z => by
      subst z
      exact no ⟨i, d, e, h1⟩
    exact ⟨a, h1, h2.mono (same_new hf) (by rw [upd_ne ne]; exact h2.nf) fun u e => e⟩
  inj := ok.inj
  own := ok.own
  pin := ok.pin
/-- a tuple that stands is frozen -/
theorem Ok.tupF (ok : Ok g F H σ ρ) {us : List V} (hh : H p = some (.tup us)) : ∃ F', Ok g F' H σ ρ ∧ Step σ ρ F H ρ F' H ∧ F' p = some (.tup us) := by
  have nw : Nw H p := .inr ⟨us, hh⟩
  cases e : F p with
  | some u =>
    have := ok.sub p u e
    rw [hh] at this
    cases this
    exact ⟨F, ok, Step.rfl', e⟩
  | none =>
    have no : ¬ Owned σ ρ p := fun ⟨i, d, h1, h2⟩ => by
      obtain ⟨a', h3, h4⟩ := ok.ow i d h1
      rw [h2] at h3
      cases h3
      exact h4.nw nw
    refine ⟨upd F p (.tup us), ok.frz hh (ok.nw0 nw) e no, ⟨same_new e, fun _ _ q _ => q, fun b n => ?_, fun _ n => n, fun _ z => z⟩, upd_same⟩
    by_cases z : b = p
    · subst z; exact .inr (.inl nw)
    · rw [upd_ne z] at n; exact .inl n
theorem getElem?_set_eq {α : Type} {l : List α} {i j : Nat} {x y : α} (h : (l.set i x)[j]? = some y) : (j = i ∧ x = y) ∨ (j ≠ i ∧ l[j]? = some y) := by
  by_cases e : i = j
  · subst e
    by_cases hl : i < l.length
    · rw [List.getElem?_set_self hl] at h
      exact .inl ⟨rfl, Option.some.inj h⟩
    · rw [List.getElem?_eq_none (by rw [List.length_set]; omega)] at h
      cases h
  · rw [List.getElem?_set_ne e] at h
    exact .inr ⟨fun z => e z.symm, h⟩
/-- a slot is stored: frozen data -/
theorem Ok.setFz {i : Nat} {v : V} {d : D} (ok : Ok g F H σ ρ) (hd : Dn g.K F v d) (hp : ∀ a, (i, a) ∉ g.P) : Ok g F H (σ.set i (some v)) (ρ.set i (.fz d)) where
  sub := ok.sub
  f0 := ok.f0
  fnew := ok.fnew
  keep := ok.keep
  there := ok.there
  len := by rw [List.length_set, List.length_set]; exact ok.len
  fz := fun j e h => by
    rcases getElem?_set_eq h with ⟨z, q⟩ | ⟨z, q⟩
    · subst z
      cases q
      have hl : j < σ.length := by
        have := (List.getElem?_eq_some_iff.mp h).1
        rw [List.length_set] at this
        rw [ok.len]; exact this
      exact ⟨v, List.getElem?_set_self hl, hd⟩
    · obtain ⟨u, h1, h2⟩ := ok.fz j e q
      exact ⟨u, by rw [List.getElem?_set_ne (fun y => z y.symm)]; exact h1, h2⟩
  ow := fun j e h => by
    rcases getElem?_set_eq h with ⟨z, q⟩ | ⟨z, q⟩
    · cases q
    · obtain ⟨u, h1, h2⟩ := ok.ow j e q
      exact ⟨u, by rw [List.getElem?_set_ne (fun y => z y.symm)]; exact h1, h2⟩
  inj := fun j k a d e h1 h2 h3 h4 => by
    rcases getElem?_set_eq h1 with ⟨z, q⟩ | ⟨z, q⟩
    · cases q
    rcases getElem?_set_eq h2 with ⟨z2, q2⟩ | ⟨z2, q2⟩
    · cases q2
    rw [List.getElem?_set_ne (fun y => z y.symm)] at h3
    rw [List.getElem?_set_ne (fun y => z2 y.symm)] at h4
    exact ok.inj j k a d e q q2 h3 h4
  own := fun j a d h1 h2 => by
    rcases getElem?_set_eq h1 with ⟨z, q⟩ | ⟨z, q⟩
    · cases q
    rw [List.getElem?_set_ne (fun y => z y.symm)] at h2
    exact ok.own j a d q h2
  pin := fun j a h => by
    have ne : i ≠ j := fun z => by subst z; exact hp a h
    rw [List.getElem?_set_ne ne, List.getElem?_set_ne ne]
    exact ok.pin j a h
/-- a slot is stored: an own thing -/
theorem Ok.setOw {i : Nat} {a : Addr} {d : D} (ok : Ok g F H σ ρ) (hd : OwnD g.K F H a d) (no : ¬ Owned σ ρ a) (h0 : g.H0 a = none) (hp : ∀ a, (i, a) ∉ g.P) : Ok g F H (σ.set i (some (.ref a))) (ρ.set i (.ow d)) where
  sub := ok.sub
  f0 := ok.f0
  fnew := ok.fnew
  keep := ok.keep
  there := ok.there
  len := by rw [List.length_set, List.length_set]; exact ok.len
  fz := fun j e h => by
    rcases getElem?_set_eq h with ⟨z, q⟩ | ⟨z, q⟩
    · cases q
    · obtain ⟨u, h1, h2⟩ := ok.fz j e q
      exact ⟨u, by rw [List.getElem?_set_ne (fun y => z y.symm)]; exact h1, h2⟩
  ow := fun j e h => by
    rcases getElem?_set_eq h with ⟨z, q⟩ | ⟨z, q⟩
    · subst z
      cases q
      have hl : j < σ.length := by
        have := (List.getElem?_eq_some_iff.mp h).1
        rw [List.length_set] at this
        rw [ok.len]; exact this
      exact ⟨a, List.getElem?_set_self hl, hd⟩
    · obtain ⟨u, h1, h2⟩ := ok.ow j e q
      exact ⟨u, by rw [List.getElem?_set_ne (fun y => z y.symm)]; exact h1, h2⟩
  inj := fun j k b d e h1 h2 h3 h4 => by
    rcases getElem?_set_eq h1 with ⟨z, q⟩ | ⟨z, q⟩ <;> rcases getElem?_set_eq h2 with ⟨z2, q2⟩ | ⟨z2, q2⟩
    · exact z.trans z2.symm
    · exfalso
      rcases getElem?_set_eq h3 with ⟨z3, q3⟩ | ⟨z3, q3⟩
      · cases q3
        rw [List.getElem?_set_ne (fun y => z2 y.symm)] at h4
        exact no ⟨k, e, q2, h4⟩
      · exact z3 z
    · exfalso
      rcases getElem?_set_eq h4 with ⟨z3, q3⟩ | ⟨z3, q3⟩
      · cases q3
        rw [List.getElem?_set_ne (fun y => z y.symm)] at h3
        exact no ⟨j, d, q, h3⟩
      · exact z3 z2
    · rw [List.getElem?_set_ne (fun y => z y.symm)] at h3
      rw [List.getElem?_set_ne (fun y => z2 y.symm)] at h4
      exact ok.inj j k b d e q q2 h3 h4
  own := fun j b d h1 h2 => by
    rcases getElem?_set_eq h1 with ⟨z, q⟩ | ⟨z, q⟩
    · rcases getElem?_set_eq h2 with ⟨z3, q3⟩ | ⟨z3, q3⟩
      · cases q3; exact .inl h0
      · exact absurd z z3
    · rw [List.getElem?_set_ne (fun y => z y.symm)] at h2
      exact ok.own j b d q h2
  pin := fun j a h => by
    have ne : i ≠ j := fun z => by subst z; exact hp a h
    rw [List.getElem?_set_ne ne, List.getElem?_set_ne ne]
    exact ok.pin j a h
/-- an own thing is changed in place -/
theorem Ok.mut {i : Nat} {a : Addr} {d d' : D} {o' : HO} (ok : Ok g F H σ ρ) (hi : ρ[i]? = some (.ow d)) (ha : σ[i]? = some (some (.ref a))) (hd : OwnD g.K F (upd H a o') a d') : Ok g F (upd H a o') σ (ρ.set i (.ow d')) := by
  have nf : F a = none := hd.nf
  have il : i < ρ.length := (List.getElem?_eq_some_iff.mp hi).1
  have ro : ∀ {j : Nat} {e : D}, (ρ.set i (Slot.ow d'))[j]? = some (Slot.ow e) → ∃ e' : D, ρ[j]? = some (Slot.ow e') := fun {j e} h => by
    rcases getElem?_set_eq h with ⟨z, q⟩ | ⟨z, q⟩
    · subst z; exact ⟨_, hi⟩
    · exact ⟨_, q⟩
  refine ⟨fun b u e => ?_, ok.f0, ok.fnew, fun b u e n => ?_, fun b n => ?_, by rw [List.length_set]; exact ok.len, fun j e h => ?_, fun j e h => ?_, fun j k b e1 e2 h1 h2 h3 h4 => ?_, fun j b e h1 h2 => ?_, fun j b h => ?_⟩
  · rw [upd_ne (ne_of_none e nf)]
    exact ok.sub b u e
  · have ne : b ≠ a := fun z => by
      subst z
      rcases ok.own i b d hi ha with q | q
      · rw [q] at e; cases e
      · exact n i q
    rw [upd_ne ne]
    exact ok.keep b u e n
  · by_cases z : b = a
    · subst z; rw [upd_same]; exact fun q => nomatch q
    · rw [upd_ne z]; exact ok.there b n
  · rcases getElem?_set_eq h with ⟨z, q⟩ | ⟨z, q⟩
    · cases q
    · exact ok.fz j e q
  · rcases getElem?_set_eq h with ⟨z, q⟩ | ⟨z, q⟩
    · subst z; cases q; exact ⟨a, ha, hd⟩
    · obtain ⟨b, h1, h2⟩ := ok.ow j e q
      have ne : b ≠ a := fun y => by
        subst y
        exact z (ok.inj j i b e d q hi h1 ha)
      exact ⟨b, h1, h2.mono (Same.refl _) h2.nf fun u e => by rw [upd_ne ne]; exact e⟩
  · obtain ⟨_, q1⟩ := ro h1
    obtain ⟨_, q2⟩ := ro h2
    exact ok.inj j k b _ _ q1 q2 h3 h4
  · obtain ⟨_, q1⟩ := ro h1
    exact ok.own j b _ q1 h2
  · obtain ⟨h1, e, h2⟩ := ok.pin j b h
    refine ⟨h1, ?_⟩
    by_cases z : i = j
    · subst z; exact ⟨d', List.getElem?_set_self il⟩
    · exact ⟨e, by rw [List.getElem?_set_ne z]; exact h2⟩
theorem owned_set {i : Nat} {d d' : D} {a : Addr} (hi : ρ[i]? = some (.ow d)) (h : Owned σ (ρ.set i (.ow d')) a) : Owned σ ρ a := by
  obtain ⟨j, e, h1, h2⟩ := h
  rcases getElem?_set_eq h1 with ⟨z, q⟩ | ⟨z, q⟩
  · subst z; exact ⟨j, d, hi, h2⟩
  · exact ⟨j, e, q, h2⟩
theorem Step.mut {i : Nat} {a : Addr} {d d' : D} {o' : HO} (hi : ρ[i]? = some (.ow d)) (ha : σ[i]? = some (some (.ref a))) (hh : ∃ o, H a = some o) : Step σ ρ F H (ρ.set i (.ow d')) F (upd H a o') where
  ff := Same.refl _
  kp := fun b u e n => by
    rw [upd_ne]
    · exact e
    · rintro rfl
      exact n ⟨i, d, hi, ha⟩
  fn := fun _ h => .inl h
  th := fun b n => by
    by_cases z : b = a
    · subst z; rw [upd_same]; exact fun q => nomatch q
    · rw [upd_ne z]; exact n
  sh := fun b h => owned_set hi h
/-- an own slot is given up -/
theorem Ok.drop {i : Nat} (ok : Ok g F H σ ρ) (hp : ∀ a, (i, a) ∉ g.P) : Ok g F H σ (ρ.set i .un) := by
  have ro : ∀ {j : Nat} {s : Slot}, (ρ.set i .un)[j]? = some s → s = .un ∨ (j ≠ i ∧ ρ[j]? = some s) := fun {j s} h => by
    rcases getElem?_set_eq h with ⟨z, q⟩ | ⟨z, q⟩
    · exact .inl q.symm
    · exact .inr ⟨z, q⟩
  refine ⟨ok.sub, ok.f0, ok.fnew, ok.keep, ok.there, by rw [List.length_set]; exact ok.len, fun j e h => ?_, fun j e h => ?_, fun j k b e1 e2 h1 h2 h3 h4 => ?_, fun j b e h1 h2 => ?_, fun j b h => ?_⟩
  · rcases ro h with q | q
    · cases q
    · exact ok.fz j e q.2
  · rcases ro h with q | q
    · cases q
    · exact ok.ow j e q.2
  · rcases ro h1 with q | q
    · cases q
    rcases ro h2 with q2 | q2
    · cases q2
    exact ok.inj j k b _ _ q.2 q2.2 h3 h4
  · rcases ro h1 with q | q
    · cases q
    exact ok.own j b _ q.2 h2
  · have ne : i ≠ j := fun z => by subst z; exact hp b h
    rw [List.getElem?_set_ne ne]
    exact ok.pin j b h
/-- an own thing is frozen -/
theorem Ok.frzO {i : Nat} {a : Addr} {d : D} {vs : List V} {ds : List D} (ok : Ok g F H σ ρ) (hi : ρ[i]? = some (.ow d)) (ha : σ[i]? = some (some (.ref a))) (hp : ∀ a, (i, a) ∉ g.P) (hh : H a = some (.lst vs)) (hd : DnAll g.K F vs ds) :
    Ok g (upd F a (.lst vs)) H σ (ρ.set i (.fz (.list ds))) ∧ Step σ ρ F H (ρ.set i (.fz (.list ds))) (upd F a (.lst vs)) H ∧ Dn g.K (upd F a (.lst vs)) (.ref a) (.list ds) := by
  obtain ⟨a', h1, h2⟩ := ok.ow i d hi
  rw [ha] at h1
  cases h1
  have nf : F a = none := h2.nf
  have h0 : g.H0 a = none := by
    rcases ok.own i a d hi ha with z | z
    · exact z
    · exact absurd z (hp a)
  have no : ¬ Owned σ (ρ.set i .un) a := by
    rintro ⟨j, d', e1, e2⟩
    rcases getElem?_set_eq e1 with ⟨_, z⟩ | ⟨n, z⟩
    · cases z
    · exact n (ok.inj j i a d' d z hi e2 ha)
  have sf : Same F (upd F a (.lst vs)) := same_new nf
  have hn : Dn g.K (upd F a (.lst vs)) (.ref a) (.list ds) := .lst upd_same (dna_same sf hd)
  have ok1 : Ok g (upd F a (.lst vs)) H σ (ρ.set i .un) := (ok.drop hp).frz hh (.inl h0) nf no
  have il : i < σ.length := by rw [ok.len]; exact (List.getElem?_eq_some_iff.mp hi).1
  have ok2 := ok1.setFz (i := i) hn hp
  rw [List.set_set] at ok2
  have es : σ.set i (some (.ref a)) = σ := by
    apply List.ext_getElem?
    intro j
    by_cases e : i = j
    · subst e; rw [List.getElem?_set_self il, ha]
    · rw [List.getElem?_set_ne e]
  rw [es] at ok2
  refine ⟨ok2, ⟨sf, fun _ _ e _ => e, fun b n => ?_, fun _ n => n, fun b z => ?_⟩, hn⟩
  · by_cases e : b = a
    · subst e; exact .inr (.inr ⟨i, d, hi, ha⟩)
    · rw [upd_ne e] at n; exact .inl n
  · obtain ⟨j, d', e1, e2⟩ := z
    rcases getElem?_set_eq e1 with ⟨_, q⟩ | ⟨n, q⟩
    · cases q
    · exact ⟨j, d', q, e2⟩
end
end Mi
set_option Elab.async false
set_option linter.all false
set_option maxRecDepth 100000
namespace Mi
open PySem PySem.Spec L2

theorem pe_mono {X : Cx} {e : Expr} {t t' : TE} (h : PE X e t) (w : ∀ σ H Q, t' σ H Q → t σ H Q) : PE X e t' := ⟨fun pins s σ H Q I q => h.run pins s σ H Q I (w σ H Q q)⟩
theorem pt_mono {X : Cx} {e : Expr} {t t' : TT} (h : PT X e t) (w : ∀ σ H Q, t' σ H Q → t σ H Q) : PT X e t' := ⟨fun pins s σ H Q I q => h.run pins s σ H Q I (w σ H Q q)⟩
theorem pw_mono {X : Cx} {e : Expr} {t t' : TT} (h : PW X e t) (w : ∀ σ H Q, t' σ H Q → t σ H Q) : PW X e t' := ⟨fun wh pins s σ H Q I q => h.run wh pins s σ H Q I (w σ H Q q)⟩
theorem pa_mono {X : Cx} {es : List Expr} {t t' : TA} (h : PA X es t) (w : ∀ σ H Q, t' σ H Q → t σ H Q) : PA X es t' := ⟨fun pos pins s σ H Q I q => h.run pos pins s σ H Q I (w σ H Q q)⟩
theorem ps_mono {X : Cx} {st : Stmt} {t t' : TS} (h : PS X st t) (w : ∀ D σ H, t' D σ H → t D σ H) : PS X st t' := ⟨fun pins s σ H D I q => h.run pins s σ H D I (w D σ H q)⟩
theorem pss_mono {X : Cx} {st : List Stmt} {t t' : TS} (h : PSs X st t) (w : ∀ D σ H, t' D σ H → t D σ H) : PSs X st t' := ⟨fun pins s σ H D I q => h.run pins s σ H D I (w D σ H q)⟩

inductive RM where
  | pure
  | fresh
abbrev RT (α β : Type) := Hp → Rho → Hp → Hp → β → α → Prop
def rE (m : RM) (g : Gh) (σ : St) : RT D V := fun H ρ' F' H' v d => match m with
  | .pure => Dn g.K F' v d
  | .fresh => ∃ a, v = .ref a ∧ H a = none ∧ OwnD g.K F' H' a d ∧ ¬ Owned σ ρ' a
def rB : RT Bool Bool := fun _ _ _ _ b b' => b = b'
def rA (g : Gh) : RT (List D) (List V) := fun _ _ F' _ vs ds => DnAll g.K F' vs ds

def Post {α β : Type} (g : Gh) (W : WX) (σ : St) (R : RT α β) (F H : Hp) (ρ : Rho) (r : Res α) (Q : β → Hp → Prop) : Prop :=
  match r with
  | .ok d ρ' => ∀ v F' H', Step σ ρ F H ρ' F' H' → Ok g F' H' σ ρ' → R H ρ' F' H' v d → Q v H'
  | .ex n ρ' => ∀ F' H' cls, g.mg n = some cls → Same F F' → Ok g F' H' σ ρ' → W cls none σ H'
  | .bad => False

/-- what is asked of a result may be asked from an earlier heap on -/
class SM {α β : Type} (R : RT α β) : Prop where
  mono : ∀ H H1 ρ' F' H' v d, (∀ a : Addr, H1 a = none → H a = none) → R H1 ρ' F' H' v d → R H ρ' F' H' v d
instance sm_E {m : RM} {g : Gh} {σ : St} : SM (rE m g σ) := ⟨fun H H1 ρ' F' H' v d h q => by
  cases m with
  | pure => exact q
  | fresh =>
    obtain ⟨a, e, h1, h2, h3⟩ := q
    exact ⟨a, e, h a h1, h2, h3⟩⟩
instance sm_B : SM rB := ⟨fun _ _ _ _ _ _ _ _ q => q⟩
instance sm_A {g : Gh} : SM (rA g) := ⟨fun _ _ _ _ _ _ _ _ q => q⟩

section
variable {α β α' β' : Type} {g : Gh} {W : WX} {σ : St} {R : RT α β} {R' : RT α' β'} {F H F1 H1 : Hp} {ρ ρ1 : Rho}
theorem Post.shift [SM R] {r : Res α} {Q : β → Hp → Prop} (st : Step σ ρ F H ρ1 F1 H1) (h : Post g W σ R F H ρ r Q) : Post g W σ R F1 H1 ρ1 r Q := by
  cases r with
  | ok d ρ' => exact fun v F2 H2 st2 ok2 r2 => h v F2 H2 (st.trans st2) ok2 (SM.mono _ _ _ _ _ _ _ (fun _ => st.gone) r2)
  | ex n ρ' => exact fun F' H' cls hm ff => h F' H' cls hm (st.ff.trans ff)
  | bad => exact h
theorem Post.bind [SM R'] {r : Res α} {k : α → Rho → Res α'} {Q : β' → Hp → Prop} {C : β → Hp → Prop} (h : Post g W σ R' F H ρ (r.bind k) Q)
    (hk : ∀ a ρ1 v F1 H1, Step σ ρ F H ρ1 F1 H1 → Ok g F1 H1 σ ρ1 → R H ρ1 F1 H1 v a → Post g W σ R' F1 H1 ρ1 (k a ρ1) Q → C v H1) : Post g W σ R F H ρ r C := by
  cases r with
  | ok d ρ' => exact fun v F1 H1 st ok1 r1 => hk d ρ' v F1 H1 st ok1 r1 (Post.shift st h)
  | ex n ρ' => exact h
  | bad => exact h
theorem Post.done {d : α} {v : β} {Q : β → Hp → Prop} (h : Post g W σ R F H ρ (.ok d ρ) Q) (ok : Ok g F H σ ρ) (r : R H ρ F H v d) : Q v H := h v F H Step.rfl' ok r
end

def tE (m : RM) (g : Gh) (W : WX) (f : Rho → Res D) : TE := fun σ H Q => ∃ F ρ, Ok g F H σ ρ ∧ Post g W σ (rE m g σ) F H ρ (f ρ) Q
def tT (g : Gh) (W : WX) (f : Rho → Res Bool) : TT := fun σ H Q => ∃ F ρ, Ok g F H σ ρ ∧ Post g W σ rB F H ρ (f ρ) Q
def tA (g : Gh) (W : WX) (f : Rho → Res (List D)) : TA := fun σ H Q => ∃ F ρ, Ok g F H σ ρ ∧ Post g W σ (rA g) F H ρ (f ρ) Q

def ofOpt {α : Type} (o : Option α) (ρ : Rho) : Res α := match o with
  | some d => .ok d ρ
  | none => .bad
@[simp] theorem ofOpt_some {α : Type} (d : α) (ρ : Rho) : ofOpt (some d) ρ = .ok d ρ := rfl
@[simp] theorem ofOpt_none {α : Type} (ρ : Rho) : ofOpt (none : Option α) ρ = .bad := rfl
def mVar (i : Nat) : Rho → Res D := fun ρ => match ρ[i]? with
  | some (.fz d) => .ok d ρ
  | _ => .bad
def mC (d : D) : Rho → Res D := fun ρ => .ok d ρ
def mBin (o : D → D → Option D) (f k : Rho → Res D) : Rho → Res D := fun ρ => (f ρ).bind fun x ρ1 => (k ρ1).bind fun y ρ2 => ofOpt (o x y) ρ2
def mUn (o : D → Option D) (f : Rho → Res D) : Rho → Res D := fun ρ => (f ρ).bind fun x ρ1 => ofOpt (o x) ρ1
def mNil : Rho → Res (List D) := fun ρ => .ok [] ρ
def mCons (f : Rho → Res D) (k : Rho → Res (List D)) : Rho → Res (List D) := fun ρ => (f ρ).bind fun x ρ1 => (k ρ1).bind fun xs ρ2 => .ok (x :: xs) ρ2
def mApp (o : List D → Option D) (f : Rho → Res (List D)) : Rho → Res D := fun ρ => (f ρ).bind fun xs ρ1 => ofOpt (o xs) ρ1
def asB : D → Option Bool
  | .bool b => some b
  | _ => none
def mTest (f : Rho → Res D) : Rho → Res Bool := fun ρ => (f ρ).bind fun x ρ1 => ofOpt (asB x) ρ1
def mAnd (f k : Rho → Res Bool) : Rho → Res Bool := fun ρ => (f ρ).bind fun b ρ1 => if b then k ρ1 else .ok false ρ1
def mOr (f k : Rho → Res Bool) : Rho → Res Bool := fun ρ => (f ρ).bind fun b ρ1 => if b then .ok true ρ1 else k ρ1
def mNot (f : Rho → Res Bool) : Rho → Res Bool := fun ρ => (f ρ).bind fun b ρ1 => .ok (!b) ρ1
def mIf {α : Type} (c : Rho → Res Bool) (f k : Rho → Res α) : Rho → Res α := fun ρ => (c ρ).bind fun b ρ1 => if b then f ρ1 else k ρ1
def mAndV (f k : Rho → Res D) : Rho → Res D := fun ρ => (f ρ).bind fun x ρ1 => (ofOpt (asB x) ρ1).bind fun b ρ2 => if b then k ρ2 else .ok (.bool false) ρ2
def mOrV (f k : Rho → Res D) : Rho → Res D := fun ρ => (f ρ).bind fun x ρ1 => (ofOpt (asB x) ρ1).bind fun b ρ2 => if b then .ok (.bool true) ρ2 else k ρ2
def mNotV (f : Rho → Res D) : Rho → Res D := fun ρ => (f ρ).bind fun x ρ1 => (ofOpt (asB x) ρ1).bind fun b ρ2 => .ok (.bool (!b)) ρ2

section
variable {X : Cx} {g : Gh} {W : WX} {a b : Expr} {pos : Pos} {f k : Rho → Res D} {m : RM}

theorem m_var (i : Nat) {x : Str} (hN : X.N[i]? = some x := by rfl) (hv : Vis X.env.scope x := by first | exact Or.inl rfl | exact Or.inr (Or.inl rfl) | exact Or.inr (Or.inr rfl))
    (hd : (x == ("__debug__" : Str)) = false := by decide) (hcd : (x == ("__classdict__" : Str)) = false := by decide) : PE X (.Name x pos) (tE .pure g W (mVar i)) :=
  pe_mono (pe_var hN hv hd hcd) fun σ H Q ⟨F, ρ, ok, h⟩ => by
    unfold mVar at h
    split at h
    · rename_i d e
      obtain ⟨v, h1, h2⟩ := ok.fz i d e
      exact ⟨v, h1, h.done ok h2⟩
    · exact h.elim
theorem m_c {v : V} {d : D} (h : PE X a (tC v)) (hd : ∀ F : Hp, Dn g.K F v d) : PE X a (tE .pure g W (mC d)) := pe_mono h fun σ H Q ⟨F, ρ, ok, q⟩ => q.done ok (hd F)
theorem m_int {i : Int} {j : Nat} : PE X (.Constant (.int i) j pos) (tE .pure g W (mC (.int i))) := m_c pe_int fun _ => .int i
theorem m_bl {i : Bool} {j : Nat} : PE X (.Constant (.bool i) j pos) (tE .pure g W (mC (.bool i))) := m_c pe_bl fun _ => .bl i
theorem m_non {j : Nat} : PE X (.Constant .none j pos) (tE .pure g W (mC .none)) := m_c pe_non fun _ => .non
theorem m_str {i : Str} {j : Nat} : PE X (.Constant (.str i) j pos) (tE .pure g W (mC (.str i))) := m_c pe_str fun _ => .str i
theorem m_glob {x : Str} {n : Int} {t : Tok} (hm : X.mg x = some (.int n t)) (hg : Gl X x := by rfl) (hd : (x == ("__debug__" : Str)) = false := by decide) : PE X (.Name x pos) (tE .pure g W (mC (.int n))) :=
  m_c (v := .int n) (pe_glob hg hm ⟨t, rfl⟩ hd) fun _ => .int n

/-- an operation on two values, on one, on a list of values: by its mirror -/
def OpM (g : Gh) (W : WX) (m : RM) (r : R2) (o : D → D → Option D) : Prop := ∀ σ F H ρ x y d e z Q, Ok g F H σ ρ → Dn g.K F x d → Dn g.K F y e → o d e = some z → Post g W σ (rE m g σ) F H ρ (.ok z ρ) Q → r x y H Q
def UnM (g : Gh) (W : WX) (m : RM) (r : V → Hp → VK → Prop) (o : D → Option D) : Prop := ∀ σ F H ρ x d z Q, Ok g F H σ ρ → Dn g.K F x d → o d = some z → Post g W σ (rE m g σ) F H ρ (.ok z ρ) Q → r x H Q
def CaM (g : Gh) (W : WX) (m : RM) (r : List V → Hp → VK → Prop) (o : List D → Option D) : Prop := ∀ σ F H ρ xs ds z Q, Ok g F H σ ρ → DnAll g.K F xs ds → o ds = some z → Post g W σ (rE m g σ) F H ρ (.ok z ρ) Q → r xs H Q
theorem tOpM {r : R2} {o : D → D → Option D} (hr : OpM g W m r o) {σ : St} {H : Hp} {Q : VK} (h : tE m g W (mBin o f k) σ H Q) : tOp r (tE .pure g W f) (tE .pure g W k) σ H Q := by
  obtain ⟨F, ρ, ok, h⟩ := h
  refine ⟨F, ρ, ok, Post.bind h fun d ρ1 x F1 H1 st ok1 hx h1 => ⟨F1, ρ1, ok1, Post.bind h1 fun e ρ2 y F2 H2 st2 ok2 hy h2 => ?_⟩⟩
  cases q : o d e with
  | none => rw [q] at h2; exact h2.elim
  | some z => rw [q] at h2; exact hr σ F2 H2 ρ2 x y d e z Q ok2 (dn_same st2.ff hx) hy q h2
theorem m_op {op : Operator} {r : R2} {o : D → D → Option D} (ho : OpR X (binaryOp op) r) (hr : OpM g W m r o) (ha : PE X a (tE .pure g W f)) (hb : PE X b (tE .pure g W k)) : PE X (.BinOp a op b pos) (tE m g W (mBin o f k)) :=
  pe_mono (pe_op ho ha hb) fun _ _ _ h => tOpM hr h
theorem m_cmp {op : CmpOp} {r : R2} {o : D → D → Option D} (ho : OpR X (compareOp op) r) (hr : OpM g W m r o) (ha : PE X a (tE .pure g W f)) (hb : PE X b (tE .pure g W k)) (hm : behindInMarks op b = false := by first | exact nomark _ | rfl) :
    PE X (.Compare a [op] [b] pos) (tE m g W (mBin o f k)) := pe_mono (pe_cmpR ho ha hb hm) fun _ _ _ h => tOpM hr h
theorem m_un {op : UnaryOp} {r : V → Hp → VK → Prop} {o : D → Option D} (ho : UnR X (unaryOp op) r) (hr : UnM g W m r o) (ha : PE X a (tE .pure g W f)) : PE X (.UnaryOp op a pos) (tE m g W (mUn o f)) :=
  pe_mono (pe_un ho ha) fun σ H Q ⟨F, ρ, ok, h⟩ => by
    refine ⟨F, ρ, ok, Post.bind h fun d ρ1 x F1 H1 st ok1 hx h1 => ?_⟩
    cases q : o d with
    | none => rw [q] at h1; exact h1.elim
    | some z => rw [q] at h1; exact hr σ F1 H1 ρ1 x d z Q ok1 hx q h1
/-- arguments -/
theorem m_nil : PA X [] (tA g W mNil) := pa_mono pa_nil fun σ H Q ⟨F, ρ, ok, h⟩ => h.done ok .nil
theorem m_cons {es : List Expr} {ks : Rho → Res (List D)} (ha : PE X a (tE .pure g W f)) (hr : PA X es (tA g W ks)) (hs : starEach (a :: es) X.env = (false, eval a X.env) :: starEach es X.env := by rfl) : PA X (a :: es) (tA g W (mCons f ks)) :=
  pa_mono (pa_cons ha hr hs) fun σ H Q ⟨F, ρ, ok, h⟩ => by
    refine ⟨F, ρ, ok, Post.bind h fun d ρ1 x F1 H1 st ok1 hx h1 => ⟨F1, ρ1, ok1, Post.bind h1 fun ds ρ2 xs F2 H2 st2 ok2 hxs h2 => ?_⟩⟩
    exact h2.done ok2 (.cons (dn_same st2.ff hx) hxs)
theorem tCBM {r : List V → Hp → VK → Prop} {o : List D → Option D} {ks : Rho → Res (List D)} (hr : CaM g W m r o) {σ : St} {H : Hp} {Q : VK} (h : tE m g W (mApp o ks) σ H Q) : tCB r (tA g W ks) σ H Q := by
  obtain ⟨F, ρ, ok, h⟩ := h
  refine ⟨F, ρ, ok, Post.bind h fun ds ρ1 xs F1 H1 st ok1 hx h1 => ?_⟩
  cases q : o ds with
  | none => rw [q] at h1; exact h1.elim
  | some z => rw [q] at h1; exact hr σ F1 H1 ρ1 xs ds z Q ok1 hx q h1
/-- f(..), f a built-in; T(..), T a built-in class -/
theorem m_callB {x : Str} {p : Pos} {e : Expr} {es : List Expr} {id : String} {r : List V → Hp → VK → Prop} {o : List D → Option D} {ks : Rho → Res (List D)} (hc : CallR X (.builtin id) r) (hr : CaM g W m r o) (hm : X.mg x = none) (ha : PA X (e :: es) (tA g W ks))
    (hv : bootBuiltins x = some (.builtin id) := by decide +kernel) (hg : Gl X x := by rfl) (hn : x ≠ "__name__" := by decide) (hdb : (x == ("__debug__" : Str)) = false := by decide)
    (he : starEach (e :: es) X.env = (false, eval e X.env) :: starEach es X.env := by rfl) (hpl : (backTo pos (starEach es X.env)).any (·.1) = false := by rfl) : PE X (.Call (.Name x p) (e :: es) [] pos) (tE m g W (mApp o ks)) :=
  pe_mono (pe_callB hc hg hm hv ha hn hdb he hpl) fun _ _ _ h => tCBM hr h
theorem m_callT {x : Str} {p : Pos} {e : Expr} {es : List Expr} {T : String} {r : List V → Hp → VK → Prop} {o : List D → Option D} {ks : Rho → Res (List D)} (hc : CallR X (.type T) r) (hr : CaM g W m r o) (hm : X.mg x = none) (ha : PA X (e :: es) (tA g W ks))
    (hv : bootBuiltins x = some (.type T) := by decide +kernel) (hg : Gl X x := by rfl) (hn : x ≠ "__name__" := by decide) (hdb : (x == ("__debug__" : Str)) = false := by decide)
    (he : starEach (e :: es) X.env = (false, eval e X.env) :: starEach es X.env := by rfl) (hpl : (backTo pos (starEach es X.env)).any (·.1) = false := by rfl) : PE X (.Call (.Name x p) (e :: es) [] pos) (tE m g W (mApp o ks)) :=
  pe_mono (pe_callTy hc hg hm hv ha hn hdb he hpl) fun _ _ _ h => tCBM hr h

/-- a fresh list is frozen -/
def isLst : D → Bool
  | .list _ => true
  | _ => false
def mLst (f : Rho → Res D) : Rho → Res D := fun ρ => (f ρ).bind fun x ρ1 => if isLst x then .ok x ρ1 else .bad
theorem m_frz (ha : PE X a (tE .fresh g W f)) : PE X a (tE .pure g W (mLst f)) := pe_mono ha fun σ H Q ⟨F, ρ, ok, h⟩ => by
  refine ⟨F, ρ, ok, ?_⟩
  unfold mLst at h
  cases q : f ρ with
  | ok d ρ1 =>
    rw [q] at h
    intro x F1 H1 st ok1 hx
    obtain ⟨p, rfl, hp, hd, no⟩ := hx
    cases hd with
    | lst hf hh hds =>
      rename_i vs ds
      have sf : Same F1 (upd F1 p (.lst vs)) := same_new hf
      refine h (.ref p) (upd F1 p (.lst vs)) H1 ⟨st.ff.trans sf, st.kp, fun b n => ?_, st.th, st.sh⟩ (ok1.frz hh (.inl (ok.nh0 hp)) hf no) (.lst upd_same (dna_same sf hds))
      by_cases e : b = p
      · subst e; exact .inr (.inl (.inl hp))
      · rw [upd_ne e] at n; exact st.fn b n
    | dK _ _ _ _ => exact h.elim
    | dT _ _ _ _ => exact h.elim
  | ex n ρ1 => rw [q] at h; exact h
  | bad => rw [q] at h; exact h
end
end Mi
set_option Elab.async false
set_option linter.all false
set_option maxRecDepth 100000
namespace Mi
open PySem PySem.Spec L2

section
variable {X : Cx} {g : Gh} {W : WX} {a b c : Expr} {pos : Pos} {f k l : Rho → Res D} {m : RM} {ft kt : Rho → Res Bool}

theorem tTestM {t : TE} {σ : St} {H : Hp} {Q : Bool → Hp → Prop} (ht : t = tE .pure g W f) (h : tT g W (mTest f) σ H Q) : t σ H fun x H' => ∃ k, x = .bl k ∧ Q k H' := by
  subst ht
  obtain ⟨F, ρ, ok, h⟩ := h
  refine ⟨F, ρ, ok, Post.bind h fun d ρ1 x F1 H1 st ok1 hx h1 => ?_⟩
  cases hx <;> first | exact h1.elim | exact ⟨_, rfl, h1.done ok1 rfl⟩
theorem m_val (ha : PE X a (tE .pure g W f)) (he : ∀ whole, isTrue a X.env whole = (do let v ← whole; standAt a.pos; holding [v] (truthy v)) := by intro _; rfl) : PT X a (tT g W (mTest f)) :=
  pt_mono (pt_val ha he) fun _ _ _ h => tTestM rfl h
theorem m_pcmp {op : CmpOp} {r : R2} {o : D → D → Option D} (ho : OpR X (compareOp op) r) (hr : OpM g W .pure r o) (ha : PE X a (tE .pure g W f)) (hb : PE X b (tE .pure g W k)) (hm : behindInMarks op b = false := by first | exact nomark _ | rfl) :
    PT X (.Compare a [op] [b] pos) (tT g W (mTest (mBin o f k))) := pt_mono (pt_cmpR ho ha hb hm) fun σ H Q h => by
  obtain ⟨F, ρ, ok, h⟩ := h
  refine tOpM hr ⟨F, ρ, ok, Post.bind h fun d ρ1 x F1 H1 st ok1 hx h1 => ?_⟩
  cases hx <;> first | exact h1.elim | exact ⟨_, rfl, h1.done ok1 rfl⟩
theorem m_and (ha : PT X a (tT g W ft)) {rest : List Expr} (hb : PW X (.BoolOp .And (b :: rest) pos) (tT g W kt)) : PW X (.BoolOp .And (a :: b :: rest) pos) (tT g W (mAnd ft kt)) :=
  pw_mono (pw_and ha hb) fun σ H Q ⟨F, ρ, ok, h⟩ => by
    refine ⟨F, ρ, ok, Post.bind h fun d ρ1 x F1 H1 st ok1 hx h1 => ?_⟩
    have e : x = d := hx
    subst e
    cases x with
    | true => exact ⟨F1, ρ1, ok1, h1⟩
    | false => exact h1.done ok1 rfl
theorem m_or (ha : PT X a (tT g W ft)) {rest : List Expr} (hb : PW X (.BoolOp .Or (b :: rest) pos) (tT g W kt)) : PW X (.BoolOp .Or (a :: b :: rest) pos) (tT g W (mOr ft kt)) :=
  pw_mono (pw_or ha hb) fun σ H Q ⟨F, ρ, ok, h⟩ => by
    refine ⟨F, ρ, ok, Post.bind h fun d ρ1 x F1 H1 st ok1 hx h1 => ?_⟩
    have e : x = d := hx
    subst e
    cases x with
    | true => exact h1.done ok1 rfl
    | false => exact ⟨F1, ρ1, ok1, h1⟩
theorem m_not (ha : PT X a (tT g W ft)) : PT X (.UnaryOp .Not a pos) (tT g W (mNot ft)) :=
  pt_mono (pt_not ha) fun σ H Q ⟨F, ρ, ok, h⟩ => by
    refine ⟨F, ρ, ok, Post.bind h fun d ρ1 x F1 H1 st ok1 hx h1 => ?_⟩
    have e : x = d := hx
    subst e
    exact h1.done ok1 rfl
theorem m_if (hc : PT X c (tT g W ft)) (ha : PE X a (tE m g W f)) (hb : PE X b (tE m g W k)) : PE X (.IfExp c a b pos) (tE m g W (mIf ft f k)) :=
  pe_mono (pe_ifExp hc ha hb) fun σ H Q ⟨F, ρ, ok, h⟩ => by
    refine ⟨F, ρ, ok, Post.bind h fun d ρ1 x F1 H1 st ok1 hx h1 => ?_⟩
    have e : x = d := hx
    subst e
    cases x with
    | true => exact ⟨F1, ρ1, ok1, h1⟩
    | false => exact ⟨F1, ρ1, ok1, h1⟩
theorem post_asB {σ : St} {F H : Hp} {ρ : Rho} {x : V} {d : D} {R' : RT D V} [SM R'] {kk : Bool → Rho → Res D} {Q : V → Hp → Prop} (hx : Dn g.K F x d) (h : Post g W σ R' F H ρ ((ofOpt (asB d) ρ).bind kk) Q) : ∃ k, x = .bl k ∧ Post g W σ R' F H ρ (kk k ρ) Q := by
  cases hx <;> first | exact h.elim | exact ⟨_, rfl, h⟩
theorem m_andV (ha : PE X a (tE .pure g W f)) {rest : List Expr} (hb : PE X (.BoolOp .And (b :: rest) pos) (tE .pure g W k)) : PE X (.BoolOp .And (a :: b :: rest) pos) (tE .pure g W (mAndV f k)) :=
  pe_mono (pe_and ha hb) fun σ H Q ⟨F, ρ, ok, h⟩ => by
    refine ⟨F, ρ, ok, Post.bind h fun d ρ1 x F1 H1 st ok1 hx h1 => ?_⟩
    obtain ⟨q, rfl, h2⟩ := post_asB hx h1
    refine ⟨q, rfl, ?_⟩
    cases q with
    | true => exact ⟨F1, ρ1, ok1, h2⟩
    | false => exact h2.done ok1 (.bl _)
theorem m_orV (ha : PE X a (tE .pure g W f)) {rest : List Expr} (hb : PE X (.BoolOp .Or (b :: rest) pos) (tE .pure g W k)) : PE X (.BoolOp .Or (a :: b :: rest) pos) (tE .pure g W (mOrV f k)) :=
  pe_mono (pe_or ha hb) fun σ H Q ⟨F, ρ, ok, h⟩ => by
    refine ⟨F, ρ, ok, Post.bind h fun d ρ1 x F1 H1 st ok1 hx h1 => ?_⟩
    obtain ⟨q, rfl, h2⟩ := post_asB hx h1
    refine ⟨q, rfl, ?_⟩
    cases q with
    | true => exact h2.done ok1 (.bl _)
    | false => exact ⟨F1, ρ1, ok1, h2⟩
theorem m_notV (ha : PE X a (tE .pure g W f)) : PE X (.UnaryOp .Not a pos) (tE .pure g W (mNotV f)) :=
  pe_mono (pe_not ha) fun σ H Q ⟨F, ρ, ok, h⟩ => by
    refine ⟨F, ρ, ok, Post.bind h fun d ρ1 x F1 H1 st ok1 hx h1 => ?_⟩
    obtain ⟨q, rfl, h2⟩ := post_asB hx h1
    exact ⟨q, rfl, h2.done ok1 (.bl _)⟩
/-- truth of any value -/
def truD : D → Option Bool
  | .none => some false
  | .bool b => some b
  | .int i => some (i != 0)
  | .list xs => some (!xs.isEmpty)
  | .tuple xs => some (!xs.isEmpty)
  | _ => none
def mTru (f : Rho → Res D) : Rho → Res Bool := fun ρ => (f ρ).bind fun x ρ1 => ofOpt (truD x) ρ1
theorem dna_empty {K : PySem.W.Frag} {F : Hp} {vs : List V} {ds : List D} (h : DnAll K F vs ds) : (!ds.isEmpty) = !vs.isEmpty := by cases h <;> rfl
theorem m_truth (ha : PE X a (tE .pure g W f)) (hK : X.K = g.K := by rfl) (he : ∀ whole, isTrue a X.env whole = (do let v ← whole; standAt a.pos; holding [v] (truthy v)) := by intro _; rfl) : PT X a (tT g W (mTru f)) :=
  pt_mono (pt_truth ha he) fun σ H Q ⟨F, ρ, ok, h⟩ => by
    refine ⟨F, ρ, ok, Post.bind h fun d ρ1 x F1 H1 st ok1 hx h1 => ?_⟩
    cases hx with
    | non => exact ⟨false, rfl, h1.done ok1 rfl⟩
    | bl q => exact ⟨q, rfl, h1.done ok1 rfl⟩
    | int i => exact ⟨_, rfl, h1.done ok1 rfl⟩
    | str x => exact h1.elim
    | lst e t => exact ⟨_, .inl ⟨_, .inl (.inl (ok1.sub _ _ e)), dna_empty t⟩, h1.done ok1 rfl⟩
    | tup e t => exact ⟨_, .inr (.inl ⟨_, .inl (.inl (ok1.sub _ _ e)), dna_empty t⟩), h1.done ok1 rfl⟩
    | _ => exact h1.elim

def mChain (o o' : D → D → Option D) (f k l : Rho → Res D) : Rho → Res D := fun ρ => (f ρ).bind fun x ρ1 => (k ρ1).bind fun y ρ2 => (ofOpt (o x y) ρ2).bind fun z ρ2 => (ofOpt (asB z) ρ2).bind fun q ρ2 =>
  if q then (l ρ2).bind fun w ρ3 => ofOpt (o' y w) ρ3 else .ok (.bool false) ρ2
/-- a comparison of values gives a bool -/
def CmpB (g : Gh) (r : R2) (o : D → D → Option D) : Prop := ∀ σ F H ρ x y d e (q : Bool) (Q : VK), Ok g F H σ ρ → Dn g.K F x d → Dn g.K F y e → o d e = some (.bool q) → Q (.bl q) H → r x y H Q
theorem CmpB.opm {r : R2} {o : D → D → Option D} (h : CmpB g r o) (hb : ∀ d e z, o d e = some z → ∃ q, z = .bool q) : OpM g W .pure r o := fun σ F H ρ x y d e z Q ok hx hy ho hp => by
  obtain ⟨q, rfl⟩ := hb d e z ho
  exact h σ F H ρ x y d e q Q ok hx hy ho (hp.done ok (.bl q))
theorem tChainM {β' : Type} {r r' : R2} {o o' : D → D → Option D} (h1 : CmpB g r o) (h2 : CmpB g r' o') (hb1 : ∀ d e z, o d e = some z → ∃ q, z = .bool q) (hb2 : ∀ d e z, o' d e = some z → ∃ q, z = .bool q)
    {σ : St} {F H : Hp} {ρ : Rho} {α' : Type} {R2' : RT α' β'} [SM R2'] {kk : D → Rho → Res α'} {Q : β' → Hp → Prop} {C : VK} (ok : Ok g F H σ ρ) (h : Post g W σ R2' F H ρ ((mChain o o' f k l ρ).bind kk) Q)
    (hC : ∀ F1 H1 ρ1 q, Ok g F1 H1 σ ρ1 → Post g W σ R2' F1 H1 ρ1 (kk (.bool q) ρ1) Q → C (.bl q) H1) : tChain r r' (tE .pure g W f) (tE .pure g W k) (tE .pure g W l) σ H C := by
  have e1 : (mChain o o' f k l ρ).bind kk = (f ρ).bind fun x ρ1 => (k ρ1).bind fun y ρ2 => (ofOpt (o x y) ρ2).bind fun z ρ2 => (ofOpt (asB z) ρ2).bind fun q ρ2 =>
      if q then (l ρ2).bind fun w ρ3 => (ofOpt (o' y w) ρ3).bind kk else kk (.bool false) ρ2 := by
    unfold mChain
    cases f ρ with
    | ex n ρ1 => rfl
    | bad => rfl
    | ok x ρ1 =>
      show ((k ρ1).bind _).bind kk = (k ρ1).bind _
      cases k ρ1 with
      | ex n ρ2 => rfl
      | bad => rfl
      | ok y ρ2 =>
        show ((ofOpt (o x y) ρ2).bind _).bind kk = (ofOpt (o x y) ρ2).bind _
        cases o x y with
        | none => rfl
        | some z =>
          show ((ofOpt (asB z) ρ2).bind _).bind kk = (ofOpt (asB z) ρ2).bind _
          cases asB z with
          | none => rfl
          | some q =>
            cases q with
            | false => rfl
            | true =>
              show ((l ρ2).bind _).bind kk = (l ρ2).bind _
              cases l ρ2 <;> rfl
  rw [e1] at h
  refine ⟨F, ρ, ok, Post.bind h fun d ρ1 x F1 H1 st ok1 hx hp => ⟨F1, ρ1, ok1, Post.bind hp fun e ρ2 y F2 H2 st2 ok2 hy hp2 => ?_⟩⟩
  cases q : o d e with
  | none => rw [q] at hp2; exact hp2.elim
  | some z =>
    rw [q] at hp2
    obtain ⟨u, rfl⟩ := hb1 d e z q
    refine h1 σ F2 H2 ρ2 x y d e u _ ok2 (dn_same st2.ff hx) hy q ⟨u, rfl, ?_⟩
    cases u with
    | false => exact hC F2 H2 ρ2 false ok2 hp2
    | true =>
      refine ⟨F2, ρ2, ok2, Post.bind hp2 fun w ρ3 v F3 H3 st3 ok3 hv hp3 => ?_⟩
      cases q' : o' e w with
      | none => rw [q'] at hp3; exact hp3.elim
      | some z' =>
        rw [q'] at hp3
        obtain ⟨u', rfl⟩ := hb2 e w z' q'
        exact h2 σ F3 H3 ρ3 y v e w u' _ ok3 (dn_same st3.ff hy) hv q' (hC F3 H3 ρ3 u' ok3 hp3)
theorem Res.bind_ret {α : Type} (r : Res α) : r.bind (fun a ρ => .ok a ρ) = r := by cases r <;> rfl
theorem m_chain {op op' : CmpOp} {r r' : R2} {o o' : D → D → Option D} (ho : OpR X (compareOp op) r) (ho' : OpR X (compareOp op') r') (h1 : CmpB g r o) (h2 : CmpB g r' o') (hb1 : ∀ d e z, o d e = some z → ∃ q, z = .bool q) (hb2 : ∀ d e z, o' d e = some z → ∃ q, z = .bool q)
    (ha : PE X a (tE .pure g W f)) (hb : PE X b (tE .pure g W k)) (hc : PE X c (tE .pure g W l)) (hm : lastMarks [op, op'] [b, c] = false := by with_unfolding_all rfl) : PE X (.Compare a [op, op'] [b, c] pos) (tE .pure g W (mChain o o' f k l)) :=
  pe_mono (pe_chain ho ho' ha hb hc hm) fun σ H Q ⟨F, ρ, ok, h⟩ =>
    tChainM (R2' := rE .pure g σ) h1 h2 hb1 hb2 ok (kk := fun a ρ => .ok a ρ) (by rw [Res.bind_ret]; exact h) fun F1 H1 ρ1 q ok1 hp => hp.done ok1 (Dn.bl q)
theorem m_pchain {op op' : CmpOp} {r r' : R2} {o o' : D → D → Option D} (ho : OpR X (compareOp op) r) (ho' : OpR X (compareOp op') r') (h1 : CmpB g r o) (h2 : CmpB g r' o') (hb1 : ∀ d e z, o d e = some z → ∃ q, z = .bool q) (hb2 : ∀ d e z, o' d e = some z → ∃ q, z = .bool q)
    (ha : PE X a (tE .pure g W f)) (hb : PE X b (tE .pure g W k)) (hc : PE X c (tE .pure g W l)) (hm : lastMarks [op, op'] [b, c] = false := by with_unfolding_all rfl) : PT X (.Compare a [op, op'] [b, c] pos) (tT g W (mTest (mChain o o' f k l))) :=
  pt_mono (pt_chain ho ho' ha hb hc hm) fun σ H Q ⟨F, ρ, ok, h⟩ =>
    tChainM (R2' := rB) h1 h2 hb1 hb2 ok (kk := fun x ρ1 => ofOpt (asB x) ρ1) h fun F1 H1 ρ1 q ok1 hp => ⟨q, rfl, hp.done ok1 rfl⟩

def tupD (ds : List D) : Option D := if ds.length ≤ 1000 then some (.tuple ds) else none
def lstD (ds : List D) : Option D := if ds.length ≤ 1000 then some (.list ds) else none
def mTup (ks : Rho → Res (List D)) : Rho → Res D := mApp tupD ks
def mLd (ks : Rho → Res (List D)) : Rho → Res D := mApp lstD ks
theorem small_line {n : Nat} (h : n ≤ 1000) : n ≤ sizeLine := by rw [sizeLine_eq]; omega
theorem lim_line {n : Nat} (h : n ≤ 1000000) : n ≤ sizeLine := by rw [sizeLine_eq]; omega
theorem m_tup {es : List Expr} {ks : Rho → Res (List D)} {x1 : Nat} (h : PA X es (tA g W ks)) : PE X (.Tuple es x1 pos) (tE .pure g W (mTup ks)) :=
  pe_mono (pe_tup h) fun σ H Q ⟨F, ρ, ok, h⟩ => by
    refine ⟨F, ρ, ok, Post.bind h fun ds ρ1 xs F1 H1 st ok1 hx h1 => ?_⟩
    by_cases z : ds.length ≤ 1000
    · rw [tupD, if_pos z] at h1
      refine ⟨small_line (by rw [dna_len hx]; exact z), fun p hp => ?_⟩
      exact h1 (.ref p) (upd F1 p (.tup xs)) (upd H1 p (.tup xs)) (Step.newF (ok1.nf hp) hp) (ok1.newF hp) (.tup upd_same (dna_same (same_new (ok1.nf hp)) hx))
    · rw [tupD, if_neg z] at h1; exact h1.elim
theorem m_lst {es : List Expr} {ks : Rho → Res (List D)} (h : PA X es (tA g W ks)) : PE X (.List es pos) (tE .fresh g W (mLd ks)) :=
  pe_mono (pe_lst h) fun σ H Q ⟨F, ρ, ok, h⟩ => by
    refine ⟨F, ρ, ok, Post.bind h fun ds ρ1 xs F1 H1 st ok1 hx h1 => ?_⟩
    by_cases z : ds.length ≤ 1000
    · rw [lstD, if_pos z] at h1
      refine ⟨small_line (by rw [dna_len hx]; exact z), fun p hp => ?_⟩
      exact h1 (.ref p) F1 (upd H1 p (.lst xs)) (Step.new hp) (ok1.new hp) ⟨p, rfl, hp, .lst (ok1.nf hp) upd_same hx, ok1.notOwned hp⟩
    · rw [lstD, if_neg z] at h1; exact h1.elim
end
end Mi
set_option Elab.async false
set_option linter.all false
set_option maxRecDepth 100000
namespace Mi
open PySem PySem.Spec L2

section
variable {X : Cx} {g : Gh} {W : WX} {a b c : Expr} {pos : Pos} {f k l : Rho → Res D} {m : RM} {σ : St} {F H : Hp} {ρ : Rho} {Q : VK}

theorem Post.newT {xs : List V} {ds : List D} (h : Post g W σ (rE .pure g σ) F H ρ (.ok (.tuple ds) ρ) Q) (ok : Ok g F H σ ρ) (hx : DnAll g.K F xs ds) {p : Addr} (hp : H p = none) : Q (.ref p) (upd H p (.tup xs)) :=
  h (.ref p) (upd F p (.tup xs)) (upd H p (.tup xs)) (Step.newF (ok.nf hp) hp) (ok.newF hp) (.tup upd_same (dna_same (same_new (ok.nf hp)) hx))
theorem Post.newLF {xs : List V} {ds : List D} (h : Post g W σ (rE .pure g σ) F H ρ (.ok (.list ds) ρ) Q) (ok : Ok g F H σ ρ) (hx : DnAll g.K F xs ds) {p : Addr} (hp : H p = none) : Q (.ref p) (upd H p (.lst xs)) :=
  h (.ref p) (upd F p (.lst xs)) (upd H p (.lst xs)) (Step.newF (ok.nf hp) hp) (ok.newF hp) (.lst upd_same (dna_same (same_new (ok.nf hp)) hx))
theorem Post.newL {xs : List V} {ds : List D} (h : Post g W σ (rE .fresh g σ) F H ρ (.ok (.list ds) ρ) Q) (ok : Ok g F H σ ρ) (hx : DnAll g.K F xs ds) {p : Addr} (hp : H p = none) : Q (.ref p) (upd H p (.lst xs)) :=
  h (.ref p) F (upd H p (.lst xs)) (Step.new hp) (ok.new hp) ⟨p, rfl, hp, .lst (ok.nf hp) upd_same hx, ok.notOwned hp⟩

def addD : D → D → Option D
  | .int i, .int j => some (.int (i + j))
  | .tuple xs, .tuple ys => if xs.length + ys.length ≤ 1000000 then some (.tuple (xs ++ ys)) else none
  | .list xs, .list ys => if xs.length + ys.length ≤ 1000000 then some (.list (xs ++ ys)) else none
  | _, _ => none
def rAdd (K : PySem.W.Frag) : R2 := fun x y H Q => rI0 (fun i j => .int (i + j)) x y H Q ∨ rCatA K x y H Q ∨ rCat x y H Q
theorem op_addA : OpR X (binaryOp .Add) (rAdd X.K) := op_add.or (op_catA.or op_cat)
theorem om_add : OpM g W .pure (rAdd g.K) addD := by
  intro σ F H ρ x y d e z Q ok hx hy ho h
  cases hx <;> cases hy <;> simp only [addD, reduceCtorEq, Option.some.injEq] at ho
  · cases ho
    exact .inl ⟨_, _, rfl, rfl, h.done ok (.int _)⟩
  · rename_i a xs ds hx hxs b ys es hy hys
    split at ho
    · rename_i z0
      cases ho
      have l1 := dna_len hxs
      have l2 := dna_len hys
      exact .inr (.inr ⟨_, _, _, _, rfl, rfl, ok.sub _ _ hx, ok.sub _ _ hy, lim_line (by omega), fun p hp => h.newLF ok (dna_app hxs hys) hp⟩)
    · cases ho
  · rename_i a xs ds hx hxs b ys es hy hys
    split at ho
    · rename_i z0
      cases ho
      have l1 := dna_len hxs
      have l2 := dna_len hys
      refine .inr (.inl ⟨_, _, _, _, rfl, rfl, .of (ok.sub _ _ hx), .of (ok.sub _ _ hy), lim_line (by omega), fun e1 => ?_, fun _ e2 => ?_, fun _ _ p hp => h.newT ok (dna_app hxs hys) hp⟩)
      · subst e1
        cases hxs
        exact h.done ok (.tup hy hys)
      · subst e2
        cases hys
        rw [List.append_nil] at h
        exact h.done ok (.tup hx hxs)
    · cases ho
def catD : D → D → Option D
  | .list xs, .list ys => if xs.length + ys.length ≤ 1000000 then some (.list (xs ++ ys)) else none
  | _, _ => none
theorem om_cat : OpM g W .fresh rCat catD := by
  intro σ F H ρ x y d e z Q ok hx hy ho h
  cases hx <;> cases hy <;> simp only [catD, reduceCtorEq] at ho
  rename_i a xs ds hx hxs b ys es hy hys
  split at ho
  · cases ho
    have l1 := dna_len hxs
    have l2 := dna_len hys
    exact ⟨_, _, _, _, rfl, rfl, ok.sub _ _ hx, ok.sub _ _ hy, lim_line (by omega), fun p hp => h.newL ok (dna_app hxs hys) hp⟩
  · cases ho
def subD : D → D → Option D
  | .int i, .int j => some (.int (i - j))
  | _, _ => none
theorem om_sub : OpM g W .pure (rI0 fun i j => .int (i - j)) subD := by
  intro σ F H ρ x y d e z Q ok hx hy ho h
  cases hx <;> cases hy <;> (simp only [subD] at ho; cases ho)
  exact ⟨_, _, rfl, rfl, h.done ok (.int _)⟩
def mulD : D → D → Option D
  | .int i, .int j => if (-(2 ^ 64) < i ∧ i < 2 ^ 64) ∨ (-(2 ^ 64) < j ∧ j < 2 ^ 64) then some (.int (i * j)) else none
  | _, _ => none
theorem om_mul : OpM g W .pure (rI CMul fun i j => .int (i * j)) mulD := by
  intro σ F H ρ x y d e z Q ok hx hy ho h
  cases hx <;> cases hy <;> simp only [mulD, reduceCtorEq] at ho
  split at ho
  · rename_i q
    cases ho
    exact ⟨_, _, rfl, rfl, q, h.done ok (.int _)⟩
  · cases ho
def fdivD : D → D → Option D
  | .int i, .int j => if 0 < j ∧ j < 2 ^ 200 then some (.int (i / j)) else none
  | _, _ => none
theorem om_fdiv : OpM g W .pure (rI CDivW fun i j => .int (i / j)) fdivD := by
  intro σ F H ρ x y d e z Q ok hx hy ho h
  cases hx <;> cases hy <;> simp only [fdivD, reduceCtorEq] at ho
  split at ho
  · rename_i q
    cases ho
    exact ⟨_, _, rfl, rfl, wide_div (b := 200) q.1 (by omega) (by decide) (by decide), h.done ok (.int _)⟩
  · cases ho
def modD : D → D → Option D
  | .int i, .int j => if 0 < j then some (.int (i % j)) else none
  | _, _ => none
theorem om_mod : OpM g W .pure (rI (fun _ j => 0 < j) fun i j => .int (i % j)) modD := by
  intro σ F H ρ x y d e z Q ok hx hy ho h
  cases hx <;> cases hy <;> simp only [modD, reduceCtorEq] at ho
  split at ho
  · rename_i q
    cases ho
    exact ⟨_, _, rfl, rfl, q, h.done ok (.int _)⟩
  · cases ho
def powD : D → D → Option D
  | .int i, .int j => if 0 ≤ j ∧ j ≤ 1000 ∧ i.natAbs < 2 ^ 64 then some (.int (i ^ j.toNat)) else none
  | _, _ => none
theorem om_pow : OpM g W .pure (rI CPow fun i j => .int (i ^ j.toNat)) powD := by
  intro σ F H ρ x y d e z Q ok hx hy ho h
  cases hx <;> cases hy <;> simp only [powD, reduceCtorEq] at ho
  split at ho
  · rename_i q
    cases ho
    exact ⟨_, _, rfl, rfl, ⟨q.1, by omega, q.2.2⟩, h.done ok (.int _)⟩
  · cases ho
def negD : D → Option D
  | .int i => some (.int (-i))
  | _ => none
theorem um_neg : UnM g W .pure (rU fun i => .int (-i)) negD := by
  intro σ F H ρ x d z Q ok hx ho h
  cases hx <;> (simp only [negD] at ho; cases ho)
  exact ⟨_, rfl, h.done ok (.int _)⟩

def cmpD (p : Int → Int → Bool) : D → D → Option D
  | .int i, .int j => some (.bool (p i j))
  | _, _ => none
theorem cb_cmp {p : Int → Int → Bool} : CmpB g (rI0 fun i j => .bl (p i j)) (cmpD p) := by
  intro σ F H ρ x y d e q Q ok hx hy ho h
  cases hx <;> cases hy <;> (simp only [cmpD] at ho; cases ho)
  exact ⟨_, _, rfl, rfl, h⟩
theorem bb_cmp {p : Int → Int → Bool} : ∀ d e z, cmpD p d e = some z → ∃ q, z = .bool q := by
  intro d e z h
  unfold cmpD at h
  split at h
  · cases h; exact ⟨_, rfl⟩
  · cases h
theorem om_cmp {p : Int → Int → Bool} : OpM g W .pure (rI0 fun i j => .bl (p i j)) (cmpD p) := cb_cmp.opm bb_cmp
abbrev ltD := cmpD fun i j => decide (i < j)
abbrev leD := cmpD fun i j => decide (i ≤ j)
abbrev gtD := cmpD fun i j => decide (j < i)
abbrev geD := cmpD fun i j => decide (j ≤ i)

def eqOk (d e : D) : Bool := d.plain && e.plain && decide (min d.depth e.depth ≤ 60)
def eqD (d e : D) : Option D := if eqOk d e = true then some (.bool (PyData.eqv d e)) else none
def neD (d e : D) : Option D := if eqOk d e = true then some (.bool (!PyData.eqv d e)) else none
def rEqP (K : PySem.W.Frag) (neg : Bool) : R2 := fun x y H Q => ∃ d e, Dp K H x d ∧ Dp K H y e ∧ eqOk d e = true ∧ Q (.bl (if neg then !PyData.eqv d e else PyData.eqv d e)) H
theorem op_eqP (hu : X.A.units + 64 < cLine) : OpR X (compareOp .Eq) (rEqP X.K false) := by
  intro pins s σ H x y v u Q I rx ry h
  obtain ⟨d, e, hd, he, hk, q⟩ := h
  obtain ⟨as, r1⟩ := Dp.reads I d x v hd rx
  obtain ⟨bs, r2⟩ := Dp.reads I e y u he ry
  unfold eqOk at hk
  simp only [Bool.and_eq_true, decide_eq_true_eq] at hk
  exact SeqAt.eq_plain r1 r2 hk.1.1 hk.1.2 (by omega) ⟨.bl _, H, I, rfl, q⟩
theorem op_neP (hu : X.A.units + 64 < cLine) : OpR X (compareOp .NotEq) (rEqP X.K true) := by
  intro pins s σ H x y v u Q I rx ry h
  obtain ⟨d, e, hd, he, hk, q⟩ := h
  obtain ⟨as, r1⟩ := Dp.reads I d x v hd rx
  obtain ⟨bs, r2⟩ := Dp.reads I e y u he ry
  unfold eqOk at hk
  simp only [Bool.and_eq_true, decide_eq_true_eq] at hk
  exact SeqAt.ne_plain r1 r2 hk.1.1 hk.1.2 (by omega) ⟨.bl _, H, I, rfl, q⟩
theorem cb_eq : CmpB g (rEqP g.K false) eqD := by
  intro σ F H ρ x y d e q Q ok hx hy ho h
  unfold eqD at ho
  split at ho
  · rename_i hk
    cases ho
    have hk' := hk
    unfold eqOk at hk'
    simp only [Bool.and_eq_true, decide_eq_true_eq] at hk'
    exact ⟨d, e, dn_dp ok.sub hx hk'.1.1, dn_dp ok.sub hy hk'.1.2, hk, h⟩
  · cases ho
theorem bb_eq : ∀ d e z, eqD d e = some z → ∃ q, z = .bool q := by
  intro d e z h
  unfold eqD at h
  split at h
  · cases h; exact ⟨_, rfl⟩
  · cases h
theorem om_eq : OpM g W .pure (rEqP g.K false) eqD := cb_eq.opm bb_eq
theorem cb_ne : CmpB g (rEqP g.K true) neD := by
  intro σ F H ρ x y d e q Q ok hx hy ho h
  unfold neD at ho
  split at ho
  · rename_i hk
    cases ho
    have hk' := hk
    unfold eqOk at hk'
    simp only [Bool.and_eq_true, decide_eq_true_eq] at hk'
    exact ⟨d, e, dn_dp ok.sub hx hk'.1.1, dn_dp ok.sub hy hk'.1.2, hk, h⟩
  · cases ho
theorem bb_ne : ∀ d e z, neD d e = some z → ∃ q, z = .bool q := by
  intro d e z h
  unfold neD at h
  split at h
  · cases h; exact ⟨_, rfl⟩
  · cases h
theorem om_ne : OpM g W .pure (rEqP g.K true) neD := cb_ne.opm bb_ne

def inOk (d : D) (xs : List D) : Bool := d.plain && PyData.plainAll xs && decide (min (PyData.depthAll xs) d.depth ≤ 60)
def inD (neg : Bool) : D → D → Option D
  | d, .list xs => if inOk d xs = true then some (.bool (if neg then !xs.any fun y => PyData.eqv y d else xs.any fun y => PyData.eqv y d)) else none
  | d, .tuple xs => if inOk d xs = true then some (.bool (if neg then !xs.any fun y => PyData.eqv y d else xs.any fun y => PyData.eqv y d)) else none
  | _, _ => none
def rInP (K : PySem.W.Frag) (neg : Bool) : R2 := fun x y H Q => ∃ d xs, Dp K H x d ∧ (Dp K H y (.list xs) ∨ Dp K H y (.tuple xs)) ∧ inOk d xs = true ∧ Q (.bl (if neg then !xs.any fun y => PyData.eqv y d else xs.any fun y => PyData.eqv y d)) H
theorem op_inP (hu : X.A.units + 64 < cLine) : OpR X (compareOp .In) (rInP X.K false) := by
  intro pins s σ H x y v u Q I rx ry h
  obtain ⟨d, xs, hd, he, hk, q⟩ := h
  obtain ⟨as, r1⟩ := Dp.reads I d x v hd rx
  unfold inOk at hk
  simp only [Bool.and_eq_true, decide_eq_true_eq] at hk
  rcases he with he | he
  · obtain ⟨bs, r2⟩ := Dp.reads I _ y u he ry
    exact SeqAt.in_list_data r2 r1 hk.1.2 hk.1.1 (by omega) ⟨.bl _, H, I, rfl, q⟩
  · obtain ⟨bs, r2⟩ := Dp.reads I _ y u he ry
    exact SeqAt.in_tuple_data r2 r1 hk.1.2 hk.1.1 (by omega) ⟨.bl _, H, I, rfl, q⟩
theorem op_notInP (hu : X.A.units + 64 < cLine) : OpR X (compareOp .NotIn) (rInP X.K true) := by
  intro pins s σ H x y v u Q I rx ry h
  obtain ⟨d, xs, hd, he, hk, q⟩ := h
  obtain ⟨as, r1⟩ := Dp.reads I d x v hd rx
  unfold inOk at hk
  simp only [Bool.and_eq_true, decide_eq_true_eq] at hk
  rcases he with he | he
  · obtain ⟨bs, r2⟩ := Dp.reads I _ y u he ry
    exact SeqAt.notIn_list_data r2 r1 hk.1.2 hk.1.1 (by omega) ⟨.bl _, H, I, rfl, q⟩
  · obtain ⟨bs, r2⟩ := Dp.reads I _ y u he ry
    exact SeqAt.notIn_tuple_data r2 r1 hk.1.2 hk.1.1 (by omega) ⟨.bl _, H, I, rfl, q⟩
theorem cb_in {neg : Bool} : CmpB g (rInP g.K neg) (inD neg) := by
  intro σ F H ρ x y d e q Q ok hx hy ho h
  have core : ∀ xs, inOk d xs = true → d.plain = true ∧ PyData.plainAll xs = true := fun xs hk => by
    unfold inOk at hk
    simp only [Bool.and_eq_true, decide_eq_true_eq] at hk
    exact hk.1
  cases e <;> simp only [inD, reduceCtorEq] at ho
  · rename_i xs
    split at ho
    · rename_i hk
      cases ho
      exact ⟨d, xs, dn_dp ok.sub hx (core _ hk).1, .inl (dn_dp ok.sub hy (by simpa [PyData.plain] using (core _ hk).2)), hk, h⟩
    · cases ho
  · rename_i xs
    split at ho
    · rename_i hk
      cases ho
      exact ⟨d, xs, dn_dp ok.sub hx (core _ hk).1, .inr (dn_dp ok.sub hy (by simpa [PyData.plain] using (core _ hk).2)), hk, h⟩
    · cases ho
theorem bb_in {neg : Bool} : ∀ d e z, inD neg d e = some z → ∃ q, z = .bool q := by
  intro d e z h
  unfold inD at h
  split at h
  · split at h
    · cases h; exact ⟨_, rfl⟩
    · cases h
  · split at h
    · cases h; exact ⟨_, rfl⟩
    · cases h
  · cases h
theorem om_in {neg : Bool} : OpM g W .pure (rInP g.K neg) (inD neg) := cb_in.opm bb_in

def isNoneD : D → Bool
  | .none => true
  | _ => false
def isD (neg : Bool) : D → D → Option D
  | d, .none => some (.bool (if neg then !isNoneD d else isNoneD d))
  | .bool p, .bool q => some (.bool (if neg then !decide (p = q) else decide (p = q)))
  | _, _ => none
def rIsA (neg : Bool) : R2 := fun x y H Q => (y = .non ∧ Q (.bl (if neg then !decide (x = .non) else decide (x = .non))) H) ∨ ∃ a b : Bool, x = .bl a ∧ y = .bl b ∧ Q (.bl (if neg then !decide (a = b) else decide (a = b))) H
theorem op_isA : OpR X (compareOp .Is) (rIsA false) := op_isN.or op_isBl
theorem op_isNotA : OpR X (compareOp .IsNot) (rIsA true) := op_notN.or op_notBl
theorem cb_is {neg : Bool} : CmpB g (rIsA neg) (isD neg) := by
  intro σ F H ρ x y d e q Q ok hx hy ho h
  cases hy with
  | non =>
    refine .inl ⟨rfl, ?_⟩
    have e1 : isNoneD d = decide (x = .non) := by cases hx <;> simp [isNoneD]
    have e2 : q = if neg then !isNoneD d else isNoneD d := by
      cases hx <;> (simp only [isD] at ho; cases ho; rfl)
    rw [← e1, ← e2]
    exact h
  | bl w =>
    cases hx <;> (simp only [isD] at ho; cases ho)
    exact .inr ⟨_, _, rfl, rfl, h⟩
  | int i => cases hx <;> (simp only [isD] at ho; cases ho)
  | str i => cases hx <;> (simp only [isD] at ho; cases ho)
  | lst _ _ => cases hx <;> (simp only [isD] at ho; cases ho)
  | tup _ _ => cases hx <;> (simp only [isD] at ho; cases ho)
  | _ => cases hx <;> (simp only [isD] at ho; cases ho)
theorem bb_is {neg : Bool} : ∀ d e z, isD neg d e = some z → ∃ q, z = .bool q := by
  intro d e z h
  unfold isD at h
  split at h
  · cases h; exact ⟨_, rfl⟩
  · cases h; exact ⟨_, rfl⟩
  · cases h
theorem om_is {neg : Bool} : OpM g W .pure (rIsA neg) (isD neg) := cb_is.opm bb_is
end
end Mi
set_option Elab.async false
set_option linter.all false
set_option maxRecDepth 100000
namespace Mi
open PySem PySem.Spec L2

theorem dna_at {K : PySem.W.Frag} {F : Hp} {vs : List V} {ds : List D} {i : Int} {d : D} (h : DnAll K F vs ds) (e : atI ds i = some d) : ∃ v, atI vs i = some v ∧ Dn K F v d := by
  unfold atI at e ⊢
  rw [← dna_len h] at e
  cases q : ixN vs.length i with
  | none => rw [q] at e; cases e
  | some j =>
    rw [q] at e
    exact dna_get h e
def cut {α : Type} (xs : List α) (lo hi : Option Int) : List α := (xs.drop (HT.sIx xs.length 0 lo)).take (HT.sIx xs.length xs.length hi - HT.sIx xs.length 0 lo)
theorem dna_cut {K : PySem.W.Frag} {F : Hp} {vs : List V} {ds : List D} (lo hi : Option Int) (h : DnAll K F vs ds) : DnAll K F (cutV vs lo hi) (cut ds lo hi) := by
  unfold cutV cut
  rw [dna_len h]
  exact dna_take _ (dna_drop _ h)

section
variable {X : Cx} {g : Gh} {W : WX} {a b c : Expr} {pos : Pos} {f k l : Rho → Res D} {m : RM} {σ : St} {F H : Hp} {ρ : Rho} {Q : VK}

def scrAt (es : List (D × D)) (i : Int) : Option D := (scrOf es).bind fun xs => atI xs i
def ixD : D → D → Option D
  | .list xs, .int i => atI xs i
  | .tuple xs, .int i => atI xs i
  | .dict kvs, .int i => scrAt kvs i
  | _, _ => none
theorem atI_map {α β : Type} (f : α → β) (xs : List α) (i : Int) : atI (xs.map f) i = (atI xs i).map f := by
  unfold atI
  rw [List.length_map]
  cases ixN xs.length i with
  | none => rfl
  | some j =>
    show (xs.map f)[j]? = (xs[j]?).map f
    rw [List.getElem?_map]
theorem om_ix : OpM g W .pure (rIx g.K) ixD := by
  intro σ F H ρ x y d e z Q ok hx hy ho h
  cases e with
  | int i =>
    cases hy
    cases d with
    | list ds =>
      cases hx with
      | lst hx hxs =>
        obtain ⟨v, h1, h2⟩ := dna_at hxs ho
        exact .inl ⟨_, _, _, _, rfl, rfl, .of (ok.sub _ _ hx), h1, h.done ok h2⟩
    | tuple ds =>
      cases hx with
      | tup hx hxs =>
        obtain ⟨v, h1, h2⟩ := dna_at hxs ho
        exact .inr (.inl ⟨_, _, _, _, rfl, rfl, .of (ok.sub _ _ hx), h1, h.done ok h2⟩)
    | dict es =>
      simp only [ixD, scrAt, Option.bind_eq_some_iff] at ho
      obtain ⟨xs, e1, ho⟩ := ho
      obtain ⟨a, ns, rfl, rfl, hs⟩ := dn_scr hx e1
      rw [atI_map] at ho
      cases q : atI ns i with
      | none => rw [q] at ho; cases ho
      | some n =>
        rw [q] at ho
        cases ho
        exact .inl ⟨_, _, _, .int n, rfl, rfl, Same.seq ok.sub hs, by rw [atI_map, q]; rfl, h.done ok (.int n)⟩
    | _ => cases ho
  | _ => cases d <;> cases ho
theorem m_ix (ha : PE X a (tE .pure g W f)) (hb : PE X b (tE .pure g W k)) (hK : X.K = g.K := by rfl) (hs : PlainIx b := by exact fun _ _ => rfl) : PE X (.Subscript a b pos) (tE .pure g W (mBin ixD f k)) :=
  pe_mono (pe_ix ix_seq ha hb hs) fun _ _ _ h => tOpM (by rw [hK]; exact om_ix) h

def tO (g : Gh) (W : WX) (f : Rho → Res (Option Int)) : TO := fun σ H Q => ∃ F ρ, Ok g F H σ ρ ∧ Post g W σ (fun _ _ _ _ o o' => o = o') F H ρ (f ρ) Q
instance sm_O : SM (fun (_ : Hp) (_ : Rho) (_ _ : Hp) (o o' : Option Int) => o = o') := ⟨fun _ _ _ _ _ _ _ _ q => q⟩
def asI : D → Option Int
  | .int i => some i
  | _ => none
def mNone : Rho → Res (Option Int) := fun ρ => .ok none ρ
def mSome (f : Rho → Res D) : Rho → Res (Option Int) := fun ρ => (f ρ).bind fun x ρ1 => (ofOpt (asI x) ρ1).bind fun i ρ1 => .ok (some i) ρ1
theorem m_pnone : PO X none (tO g W mNone) := ⟨fun pins s σ H Q I ⟨F, ρ, ok, h⟩ => po_none.run pins s σ H Q I (h.done ok rfl)⟩
theorem m_psome (h : PE X a (tE .pure g W f)) : PO X (some a) (tO g W (mSome f)) := ⟨fun pins s σ H Q I ⟨F, ρ, ok, h1⟩ => (po_some h).run pins s σ H Q I
  ⟨F, ρ, ok, Post.bind h1 fun d ρ1 x F1 H1 st ok1 hx h2 => by
    cases hx <;> first | exact h2.elim | exact ⟨_, rfl, h2.done ok1 rfl⟩⟩⟩
def mSl (o : D → Option Int → Option Int → Option D) (f : Rho → Res D) (lo hi : Rho → Res (Option Int)) : Rho → Res D := fun ρ => (f ρ).bind fun x ρ1 => (lo ρ1).bind fun i ρ2 => (hi ρ2).bind fun j ρ3 => ofOpt (o x i j) ρ3
def slLD : D → Option Int → Option Int → Option D
  | .list xs, lo, hi => some (.list (cut xs lo hi))
  | _, _, _ => none
def slTD : D → Option Int → Option Int → Option D
  | .tuple xs, lo, hi => some (.tuple (cut xs lo hi))
  | _, _, _ => none
theorem tSlM {r : V → Option Int → Option Int → Hp → VK → Prop} {o : D → Option Int → Option Int → Option D} {lo hi : Rho → Res (Option Int)}
    (hr : ∀ σ F H ρ x d i j z Q, Ok g F H σ ρ → Dn g.K F x d → o d i j = some z → Post g W σ (rE m g σ) F H ρ (.ok z ρ) Q → r x i j H Q) {σ : St} {H : Hp} {Q : VK} (h : tE m g W (mSl o f lo hi) σ H Q) :
    tSl r (tE .pure g W f) (tO g W lo) (tO g W hi) σ H Q := by
  obtain ⟨F, ρ, ok, h⟩ := h
  refine ⟨F, ρ, ok, Post.bind h fun d ρ1 x F1 H1 st ok1 hx h1 => ⟨F1, ρ1, ok1, Post.bind h1 fun i ρ2 i' F2 H2 st2 ok2 e2 h2 => ⟨F2, ρ2, ok2, Post.bind h2 fun j ρ3 j' F3 H3 st3 ok3 e3 h3 => ?_⟩⟩⟩
  have e2' : i' = i := e2
  have e3' : j' = j := e3
  subst e2' e3'
  cases q : o d i' j' with
  | none => rw [q] at h3; exact h3.elim
  | some z => rw [q] at h3; exact hr σ F3 H3 ρ3 x d i' j' z Q ok3 (dn_same (st2.ff.trans st3.ff) hx) q h3
theorem m_slL {lo hi : Option Expr} {tl th : Rho → Res (Option Int)} {p2 : Pos} (ha : PE X a (tE .pure g W f)) (hl : PO X lo (tO g W tl)) (hu : PO X hi (tO g W th)) (hK : X.K = g.K := by rfl) :
    PE X (.Subscript a (.Slice lo hi none p2) pos) (tE .fresh g W (mSl slLD f tl th)) :=
  pe_mono (pe_slice sl_list ha hl hu) fun _ _ _ h => tSlM (fun σ F H ρ x d i j z Q ok hx ho h => by
    cases hx <;> simp only [slLD, reduceCtorEq] at ho
    rename_i a xs ds hx hxs
    cases ho
    rw [hK]
    exact ⟨_, _, rfl, .of (ok.sub _ _ hx), fun p hp => h.newL ok (dna_cut _ _ hxs) hp⟩) h
theorem m_slT {lo hi : Option Expr} {tl th : Rho → Res (Option Int)} {p2 : Pos} (ha : PE X a (tE .pure g W f)) (hl : PO X lo (tO g W tl)) (hu : PO X hi (tO g W th)) (hK : X.K = g.K := by rfl) :
    PE X (.Subscript a (.Slice lo hi none p2) pos) (tE .pure g W (mSl slTD f tl th)) :=
  pe_mono (pe_slice sl_tupA ha hl hu) fun _ _ _ h => tSlM (fun σ F H ρ x d i j z Q ok hx ho h => by
    cases hx <;> simp only [slTD, reduceCtorEq] at ho
    rename_i a xs ds hx hxs
    cases ho
    rw [hK]
    refine ⟨_, _, rfl, .of (ok.sub _ _ hx), fun e => ?_, fun _ p hp => h.newT ok (dna_cut _ _ hxs) hp⟩
    have e1 : cut ds i j = ds := by
      unfold cut
      rw [← dna_len hxs, e.1, e.2, List.drop_zero, Nat.sub_zero, dna_len hxs, List.take_length]
    rw [e1] at h
    exact h.done ok (.tup hx hxs)) h

def lenD : List D → Option D
  | [.list xs] => some (.int xs.length)
  | [.tuple xs] => some (.int xs.length)
  | [.dict es] => (scrOf es).map fun xs => .int xs.length
  | _ => none
theorem cm_len : CaM g W .pure (fun xs H Q => ∃ p ys, xs = [.ref p] ∧ (SqL g.K H p ys ∨ SqT g.K H p ys) ∧ Q (.int ys.length) H) lenD := by
  intro σ F H ρ xs ds z Q ok hx ho h
  unfold lenD at ho
  split at ho
  · cases hx with
    | cons h1 t1 =>
      cases t1
      cases h1 with
      | lst hx hxs =>
        cases ho
        rw [← dna_len hxs] at h
        exact ⟨_, _, rfl, .inl (.of (ok.sub _ _ hx)), h.done ok (.int _)⟩
  · cases hx with
    | cons h1 t1 =>
      cases t1
      cases h1 with
      | tup hx hxs =>
        cases ho
        rw [← dna_len hxs] at h
        exact ⟨_, _, rfl, .inr (.of (ok.sub _ _ hx)), h.done ok (.int _)⟩
  · cases hx with
    | cons h1 t1 =>
      cases t1
      obtain ⟨xs, e1, rfl⟩ := Option.map_eq_some_iff.mp ho
      obtain ⟨a, ns, rfl, rfl, hs⟩ := dn_scr h1 e1
      rw [List.length_map] at h
      refine ⟨_, _, rfl, .inl (Same.seq ok.sub hs), ?_⟩
      rw [List.length_map]
      exact h.done ok (.int _)
  · cases ho
def listD : List D → Option D
  | [.list xs] => some (.list xs)
  | [.tuple xs] => some (.list xs)
  | _ => none
theorem cm_list : CaM g W .fresh (fun xs H Q => ∃ p ys, xs = [.ref p] ∧ (SqL g.K H p ys ∨ SqT g.K H p ys) ∧ ∀ l, H l = none → Q (.ref l) (upd H l (.lst ys))) listD := by
  intro σ F H ρ xs ds z Q ok hx ho h
  cases hx with
  | nil => cases ho
  | cons h1 t1 =>
    cases t1 with
    | cons _ _ => cases h1 <;> simp only [listD, reduceCtorEq] at ho
    | nil =>
      cases h1 <;> simp only [listD, reduceCtorEq, Option.some.injEq] at ho
      · rename_i hx hxs
        cases ho
        exact ⟨_, _, rfl, .inl (.of (ok.sub _ _ hx)), fun p hp => h.newL ok hxs hp⟩
      · rename_i hx hxs
        cases ho
        exact ⟨_, _, rfl, .inr (.of (ok.sub _ _ hx)), fun p hp => h.newL ok hxs hp⟩
def tupleD : List D → Option D
  | [.list xs] => some (.tuple xs)
  | [.tuple xs] => some (.tuple xs)
  | _ => none
theorem cm_tuple : CaM g W .pure (fun xs H Q => ∃ p ys, xs = [.ref p] ∧ ((SqL g.K H p ys ∧ ∀ l, H l = none → Q (.ref l) (upd H l (.tup ys))) ∨ (SqT g.K H p ys ∧ Q (.ref p) H))) tupleD := by
  intro σ F H ρ xs ds z Q ok hx ho h
  cases hx with
  | nil => cases ho
  | cons h1 t1 =>
    cases t1 with
    | cons _ _ => cases h1 <;> simp only [tupleD, reduceCtorEq] at ho
    | nil =>
      cases h1 <;> simp only [tupleD, reduceCtorEq, Option.some.injEq] at ho
      · rename_i hx hxs
        cases ho
        exact ⟨_, _, rfl, .inl ⟨.of (ok.sub _ _ hx), fun p hp => h.newT ok hxs hp⟩⟩
      · rename_i hx hxs
        cases ho
        exact ⟨_, _, rfl, .inr ⟨.of (ok.sub _ _ hx), h.done ok (.tup hx hxs)⟩⟩
/-- a list of ints, of bools -/
def intsOf : List D → Option (List Int)
  | [] => some []
  | .int i :: r => (intsOf r).map (i :: ·)
  | _ => none
theorem intsOf_map (ns : List Int) : intsOf (ns.map PyData.int) = some ns := by
  induction ns with
  | nil => rfl
  | cons n r ih => show (intsOf (r.map PyData.int)).map (n :: ·) = _; rw [ih]; rfl
theorem intsOf_eq : ∀ {ds : List D} {ns : List Int}, intsOf ds = some ns → ds = ns.map PyData.int
  | [], ns, h => by cases h; rfl
  | d :: r, ns, h => by
    cases d <;> simp only [intsOf, reduceCtorEq] at h
    cases q : intsOf r with
    | none => rw [q] at h; cases h
    | some ms =>
      rw [q] at h
      cases h
      rw [List.map_cons, intsOf_eq q]
def boolsOf : List D → Option (List Bool)
  | [] => some []
  | .bool i :: r => (boolsOf r).map (i :: ·)
  | _ => none
theorem boolsOf_map (ns : List Bool) : boolsOf (ns.map PyData.bool) = some ns := by
  induction ns with
  | nil => rfl
  | cons n r ih => show (boolsOf (r.map PyData.bool)).map (n :: ·) = _; rw [ih]; rfl
theorem boolsOf_eq : ∀ {ds : List D} {ns : List Bool}, boolsOf ds = some ns → ds = ns.map PyData.bool
  | [], ns, h => by cases h; rfl
  | d :: r, ns, h => by
    cases d <;> simp only [boolsOf, reduceCtorEq] at h
    cases q : boolsOf r with
    | none => rw [q] at h; cases h
    | some ms =>
      rw [q] at h
      cases h
      rw [List.map_cons, boolsOf_eq q]
def sumD : List D → Option D
  | [.list xs] => (intsOf xs).map fun ns => .int ns.sum
  | _ => none
theorem cm_sum : CaM g W .pure (rSum g.K) sumD := by
  intro σ F H ρ xs ds z Q ok hx ho h
  cases hx with
  | nil => cases ho
  | cons h1 t1 =>
    cases t1 with
    | cons _ _ => cases h1 <;> simp only [sumD, reduceCtorEq] at ho
    | nil =>
      cases h1 <;> simp only [sumD, reduceCtorEq, Option.map_eq_some_iff] at ho
      rename_i hx hxs
      obtain ⟨ns, e, rfl⟩ := ho
      rw [intsOf_eq e] at hxs
      exact ⟨_, ns, rfl, .of (by rw [← dna_ints hxs]; exact ok.sub _ _ hx), h.done ok (.int _)⟩
def allD : List D → Option D
  | [.list xs] => (boolsOf xs).map fun ns => .bool (ns.all id)
  | _ => none
theorem cm_all : CaM g W .pure (rAll g.K) allD := by
  intro σ F H ρ xs ds z Q ok hx ho h
  cases hx with
  | nil => cases ho
  | cons h1 t1 =>
    cases t1 with
    | cons _ _ => cases h1 <;> simp only [allD, reduceCtorEq] at ho
    | nil =>
      cases h1 <;> simp only [allD, reduceCtorEq, Option.map_eq_some_iff] at ho
      rename_i hx hxs
      obtain ⟨ns, e, rfl⟩ := ho
      rw [boolsOf_eq e] at hxs
      exact ⟨_, ns, rfl, .of (by rw [← dna_bools hxs]; exact ok.sub _ _ hx), h.done ok (.bl _)⟩
/-- the greatest, the least of ints -/
def maxOf : List Int → Int
  | [] => 0
  | [x] => x
  | x :: y :: r => max x (maxOf (y :: r))
def minOf : List Int → Int
  | [] => 0
  | [x] => x
  | x :: y :: r => min x (minOf (y :: r))
theorem maxOf_is : ∀ {ns : List Int}, ns ≠ [] → maxOf ns ∈ ns ∧ ∀ y ∈ ns, y ≤ maxOf ns
  | [x], _ => ⟨by simp [maxOf], fun y h => by simp at h; rw [h]; exact Int.le_refl _⟩
  | x :: y :: r, _ => by
    obtain ⟨h1, h2⟩ := maxOf_is (ns := y :: r) (by simp)
    refine ⟨?_, fun z hz => ?_⟩
    · show max x (maxOf (y :: r)) ∈ _
      by_cases q : x ≤ maxOf (y :: r)
      · rw [Int.max_eq_right q]; exact List.mem_cons_of_mem _ h1
      · rw [Int.max_eq_left (by omega)]; exact List.mem_cons_self
    · show z ≤ max x (maxOf (y :: r))
      rcases List.mem_cons.mp hz with rfl | hz
      · exact Int.le_max_left _ _
      · exact Int.le_trans (h2 z hz) (Int.le_max_right _ _)
theorem minOf_is : ∀ {ns : List Int}, ns ≠ [] → minOf ns ∈ ns ∧ ∀ y ∈ ns, minOf ns ≤ y
  | [x], _ => ⟨by simp [minOf], fun y h => by simp at h; rw [h]; exact Int.le_refl _⟩
  | x :: y :: r, _ => by
    obtain ⟨h1, h2⟩ := minOf_is (ns := y :: r) (by simp)
    refine ⟨?_, fun z hz => ?_⟩
    · show min x (minOf (y :: r)) ∈ _
      by_cases q : x ≤ minOf (y :: r)
      · rw [Int.min_eq_left q]; exact List.mem_cons_self
      · rw [Int.min_eq_right (by omega)]; exact List.mem_cons_of_mem _ h1
    · show min x (minOf (y :: r)) ≤ z
      rcases List.mem_cons.mp hz with rfl | hz
      · exact Int.min_le_left _ _
      · exact Int.le_trans (Int.min_le_right _ _) (h2 z hz)
theorem maxOf_uniq {ns : List Int} {m : Int} (h1 : m ∈ ns) (h2 : ∀ y ∈ ns, y ≤ m) : m = maxOf ns := by
  have h0 : ns ≠ [] := List.ne_nil_of_mem h1
  obtain ⟨h3, h4⟩ := maxOf_is h0
  exact Int.le_antisymm (h4 m h1) (h2 _ h3)
theorem minOf_uniq {ns : List Int} {m : Int} (h1 : m ∈ ns) (h2 : ∀ y ∈ ns, m ≤ y) : m = minOf ns := by
  have h0 : ns ≠ [] := List.ne_nil_of_mem h1
  obtain ⟨h3, h4⟩ := minOf_is h0
  exact Int.le_antisymm (h2 _ h3) (h4 m h1)
def maxD : List D → Option D
  | [.list xs] => (intsOf xs).bind fun ns => if ns.isEmpty then none else some (.int (maxOf ns))
  | _ => none
def minD : List D → Option D
  | [.list xs] => (intsOf xs).bind fun ns => if ns.isEmpty then none else some (.int (minOf ns))
  | _ => none
theorem cm_max : CaM g W .pure (rMax g.K) maxD := by
  intro σ F H ρ xs ds z Q ok hx ho h
  cases hx with
  | nil => cases ho
  | cons h1 t1 =>
    cases t1 with
    | cons _ _ => cases h1 <;> simp only [maxD, reduceCtorEq] at ho
    | nil =>
      cases h1 <;> simp only [maxD, reduceCtorEq, Option.bind_eq_some_iff] at ho
      rename_i hx hxs
      obtain ⟨ns, e, ho⟩ := ho
      rw [intsOf_eq e] at hxs
      cases ns with
      | nil => cases ho
      | cons n r =>
        cases ho
        exact ⟨_, n :: r, rfl, .of (by rw [← dna_ints hxs]; exact ok.sub _ _ hx), by simp, fun m h1 h2 => by rw [maxOf_uniq h1 h2]; exact h.done ok (.int _)⟩
theorem cm_min : CaM g W .pure (rMin g.K) minD := by
  intro σ F H ρ xs ds z Q ok hx ho h
  cases hx with
  | nil => cases ho
  | cons h1 t1 =>
    cases t1 with
    | cons _ _ => cases h1 <;> simp only [minD, reduceCtorEq] at ho
    | nil =>
      cases h1 <;> simp only [minD, reduceCtorEq, Option.bind_eq_some_iff] at ho
      rename_i hx hxs
      obtain ⟨ns, e, ho⟩ := ho
      rw [intsOf_eq e] at hxs
      cases ns with
      | nil => cases ho
      | cons n r =>
        cases ho
        exact ⟨_, n :: r, rfl, .of (by rw [← dna_ints hxs]; exact ok.sub _ _ hx), by simp, fun m h1 h2 => by rw [minOf_uniq h1 h2]; exact h.done ok (.int _)⟩
def max2D : List D → Option D
  | [.int i, .int j] => some (.int (max i j))
  | _ => none
def min2D : List D → Option D
  | [.int i, .int j] => some (.int (min i j))
  | _ => none
theorem cm_max2 : CaM g W .pure (fun xs H Q => ∃ i j, xs = [.int i, .int j] ∧ Q (.int (if j > i then j else i)) H) max2D := by
  intro σ F H ρ xs ds z Q ok hx ho h
  unfold max2D at ho
  split at ho
  · cases ho
    cases hx with
    | cons h1 t1 => cases t1 with
      | cons h2 t2 =>
        cases t2
        cases h1
        cases h2
        rename_i i j
        refine ⟨i, j, rfl, ?_⟩
        rw [show (if j > i then j else i) = max i j by split <;> omega]
        exact h.done ok (.int _)
  · cases ho
theorem cm_min2 : CaM g W .pure (fun xs H Q => ∃ i j, xs = [.int i, .int j] ∧ Q (.int (if j < i then j else i)) H) min2D := by
  intro σ F H ρ xs ds z Q ok hx ho h
  unfold min2D at ho
  split at ho
  · cases ho
    cases hx with
    | cons h1 t1 => cases t1 with
      | cons h2 t2 =>
        cases t2
        cases h1
        cases h2
        rename_i i j
        refine ⟨i, j, rfl, ?_⟩
        rw [show (if j < i then j else i) = min i j by split <;> omega]
        exact h.done ok (.int _)
  · cases ho
def int1D : List D → Option D
  | [.int i] => some (.int i)
  | [.bool b] => some (.int (if b then 1 else 0))
  | _ => none
theorem cm_int1 : CaM g W .pure (fun xs H Q => (∃ i, xs = [.int i] ∧ Q (.int i) H) ∨ ∃ k, xs = [.bl k] ∧ Q (.int (if k then 1 else 0)) H) int1D := by
  intro σ F H ρ xs ds z Q ok hx ho h
  unfold int1D at ho
  split at ho
  · cases ho
    cases hx with
    | cons h1 t1 =>
      cases t1
      cases h1
      exact .inl ⟨_, rfl, h.done ok (.int _)⟩
  · cases ho
    cases hx with
    | cons h1 t1 =>
      cases t1
      cases h1
      exact .inr ⟨_, rfl, h.done ok (.int _)⟩
  · cases ho
end
end Mi
set_option Elab.async false
set_option linter.all false
set_option maxRecDepth 100000
namespace Mi
open PySem PySem.Spec L2

/-- ds is given, item by item, while F stands -/
structure Src (K : PySem.W.Frag) (F : Hp) (J : It) (ds : List D) : Prop where
  goes : ∀ i H, i < ds.length → Same F H → J.go i H
  stops : ∀ H, Same F H → J.stop ds.length H
  yld : ∀ i H x H', i < ds.length → Same F H → J.yld i H x H' → ∃ d, ds[i]? = some d ∧ ((H' = H ∧ Dn K F x d) ∨ (∃ T vs es, x = .ref T ∧ H T = none ∧ H' = upd H T (.tup vs) ∧ d = .tuple es ∧ DnAll K F vs es) ∨ ∃ T vs es, x = .ref T ∧ H T = some (.tup vs) ∧ H' = H ∧ d = .tuple es ∧ DnAll K F vs es)
theorem Src.same {K : PySem.W.Frag} {F F' : Hp} {J : It} {ds : List D} (s : Src K F J ds) (e : Same F F') : Src K F' J ds where
  goes := fun i H hi h => s.goes i H hi (e.trans h)
  stops := fun H h => s.stops H (e.trans h)
  yld := fun i H x H' hi h y => by
    obtain ⟨d, h1, h2⟩ := s.yld i H x H' hi (e.trans h) y
    refine ⟨d, h1, ?_⟩
    rcases h2 with ⟨q1, q2⟩ | ⟨T, vs, es, q1, q2, q3, q4, q5⟩ | ⟨T, vs, es, q1, q2, q3, q4, q5⟩
    · exact .inl ⟨q1, dn_same e q2⟩
    · exact .inr (.inl ⟨T, vs, es, q1, q2, q3, q4, dna_same e q5⟩)
    · exact .inr (.inr ⟨T, vs, es, q1, q2, q3, q4, dna_same e q5⟩)
def rI (g : Gh) : RT (List D) It := fun _ _ F' _ J ds => Src g.K F' J ds
instance sm_I {g : Gh} : SM (rI g) := ⟨fun _ _ _ _ _ _ _ _ q => q⟩
def tI (g : Gh) (W : WX) (f : Rho → Res (List D)) : TI := fun σ H R => ∃ F ρ, Ok g F H σ ρ ∧ Post g W σ (rI g) F H ρ (f ρ) R
theorem pi_mono {X : Cx} {tg it : Expr} {w w' : TI} (h : PI X tg it w) (m : ∀ σ H R, w' σ H R → w σ H R) : PI X tg it w' := ⟨fun pins s σ H R I q => h.run pins s σ H R I (m σ H R q)⟩

theorem src_list {K : PySem.W.Frag} {F : Hp} {a : Addr} {xs : List V} {ds : List D} (h : F a = some (.lst xs)) (hx : DnAll K F xs ds) : Src K F (Itl K a) ds where
  goes := fun i H hi e => by
    rw [← dna_len hx] at hi
    exact ⟨xs, xs[i], .of (e _ _ h), by simp [hi]⟩
  stops := fun H e => ⟨xs, .of (e _ _ h), by rw [dna_len hx]; exact Nat.le_refl _⟩
  yld := fun i H x H' hi e y => by
    obtain ⟨d, h1, h2⟩ := dna_getV hx (y.2 xs (.of (e _ _ h)))
    exact ⟨d, h1, .inl ⟨y.1, h2⟩⟩
theorem src_tup {K : PySem.W.Frag} {F : Hp} {a : Addr} {xs : List V} {ds : List D} (h : F a = some (.tup xs)) (hx : DnAll K F xs ds) : Src K F (Itt K a) ds where
  goes := fun i H hi e => by
    rw [← dna_len hx] at hi
    exact ⟨xs, xs[i], .of (e _ _ h), by simp [hi]⟩
  stops := fun H e => ⟨xs, .of (e _ _ h), by rw [dna_len hx]; exact Nat.le_refl _⟩
  yld := fun i H x H' hi e y => by
    obtain ⟨d, h1, h2⟩ := dna_getV hx (y.2 xs (.of (e _ _ h)))
    exact ⟨d, h1, .inl ⟨y.1, h2⟩⟩
def rngD (lo : Int) (n : Nat) : List D := (List.range n).map fun k => .int (lo + (k : Nat))
theorem rngD_len (lo : Int) (n : Nat) : (rngD lo n).length = n := by unfold rngD; rw [List.length_map, List.length_range]
theorem src_range {K : PySem.W.Frag} {F : Hp} {lo : Int} {n : Nat} : Src K F (Itr lo n) (rngD lo n) where
  goes := fun i H hi e => by rw [rngD_len] at hi; exact hi
  stops := fun H e => by rw [rngD_len]; exact Nat.le_refl _
  yld := fun i H x H' hi e y => by
    rw [rngD_len] at hi
    refine ⟨.int (lo + i), ?_, .inl ⟨y.1, ?_⟩⟩
    · unfold rngD
      rw [List.getElem?_map, List.getElem?_range hi]
      rfl
    · rw [y.2]; exact .int _
def enumD (ds : List D) : List D := ds.zipIdx.map fun p => .tuple [.int (p.2 : Nat), p.1]
theorem enumD_len (ds : List D) : (enumD ds).length = ds.length := by unfold enumD; rw [List.length_map, List.length_zipIdx]
theorem enumD_get {ds : List D} {i : Nat} {d : D} (h : ds[i]? = some d) : (enumD ds)[i]? = some (.tuple [.int (i : Nat), d]) := by
  unfold enumD
  rw [List.getElem?_map, List.getElem?_zipIdx, h]
  simp
theorem src_enum {K : PySem.W.Frag} {F : Hp} {a : Addr} {xs : List V} {ds : List D} (h : F a = some (.lst xs)) (hx : DnAll K F xs ds) : Src K F (Ite K a) (enumD ds) where
  goes := fun i H hi e => by
    rw [enumD_len, ← dna_len hx] at hi
    exact ⟨xs, xs[i], .of (e _ _ h), by simp [hi]⟩
  stops := fun H e => ⟨xs, .of (e _ _ h), by rw [enumD_len, dna_len hx]; exact Nat.le_refl _⟩
  yld := fun i H x H' hi e y => by
    obtain ⟨T, z, h1, h2, h3, h4⟩ := y
    obtain ⟨d, q1, q2⟩ := dna_getV hx (h4 xs (.of (e _ _ h)))
    exact ⟨_, enumD_get q1, .inr (.inl ⟨T, _, _, h1, h2, h3, rfl, .cons (.int _) (.cons q2 .nil)⟩)⟩
def zipD (xs ys : List D) : List D := (xs.zip ys).map fun p => .tuple [p.1, p.2]
theorem zipD_len (xs ys : List D) : (zipD xs ys).length = min xs.length ys.length := by unfold zipD; rw [List.length_map, List.length_zip]
theorem zipD_get {xs ys : List D} {i : Nat} {x y : D} (h : xs[i]? = some x) (h' : ys[i]? = some y) : (zipD xs ys)[i]? = some (.tuple [x, y]) := by
  unfold zipD
  rw [List.getElem?_map, List.zip_eq_zipWith, List.getElem?_zipWith, h, h']
  rfl
theorem src_zipL {K : PySem.W.Frag} {F : Hp} {a b : Addr} {xs ys : List V} {ds es : List D} (h : F a = some (.lst xs)) (hx : DnAll K F xs ds) (h' : F b = some (.lst ys)) (hy : DnAll K F ys es) : Src K F (Itz K a b) (zipD ds es) where
  goes := fun i H hi e => by
    rw [zipD_len, ← dna_len hx, ← dna_len hy] at hi
    have i1 : i < xs.length := by omega
    have i2 : i < ys.length := by omega
    exact ⟨xs, ys, xs[i], ys[i], .of (e _ _ h), .of (e _ _ h'), by simp [i1], by simp [i2]⟩
  stops := fun H e => ⟨xs, ys, .of (e _ _ h), .of (e _ _ h'), by rw [zipD_len, dna_len hx, dna_len hy]; omega⟩
  yld := fun i H x H' hi e y => by
    obtain ⟨T, z, u, h1, h2, h3, h4, h5⟩ := y
    obtain ⟨d, q1, q2⟩ := dna_getV hx (h4 xs (.of (e _ _ h)))
    obtain ⟨d', q1', q2'⟩ := dna_getV hy (h5 ys (.of (e _ _ h')))
    exact ⟨_, zipD_get q1 q1', .inr (.inl ⟨T, _, _, h1, h2, h3, rfl, .cons q2 (.cons q2' .nil)⟩)⟩
theorem src_zipT {K : PySem.W.Frag} {F : Hp} {a b : Addr} {xs ys : List V} {ds es : List D} (h : F a = some (.tup xs)) (hx : DnAll K F xs ds) (h' : F b = some (.tup ys)) (hy : DnAll K F ys es) : Src K F (RZ.ItzT K a b) (zipD ds es) where
  goes := fun i H hi e => by
    rw [zipD_len, ← dna_len hx, ← dna_len hy] at hi
    have i1 : i < xs.length := by omega
    have i2 : i < ys.length := by omega
    exact ⟨xs, ys, xs[i], ys[i], .of (e _ _ h), .of (e _ _ h'), by simp [i1], by simp [i2]⟩
  stops := fun H e => ⟨xs, ys, .of (e _ _ h), .of (e _ _ h'), by rw [zipD_len, dna_len hx, dna_len hy]; omega⟩
  yld := fun i H x H' hi e y => by
    obtain ⟨T, z, u, h1, h2, h3, h4, h5⟩ := y
    obtain ⟨d, q1, q2⟩ := dna_getV hx (h4 xs (.of (e _ _ h)))
    obtain ⟨d', q1', q2'⟩ := dna_getV hy (h5 ys (.of (e _ _ h')))
    exact ⟨_, zipD_get q1 q1', .inr (.inl ⟨T, _, _, h1, h2, h3, rfl, .cons q2 (.cons q2' .nil)⟩)⟩

section
variable {X : Cx} {g : Gh} {W : WX} {a b c tg : Expr} {pos p : Pos} {f k l : Rho → Res D} {ks : Rho → Res (List D)}
def itemsL : D → Option (List D)
  | .list xs => some xs
  | _ => none
def itemsT : D → Option (List D)
  | .tuple xs => some xs
  | _ => none
def mItL (f : Rho → Res D) : Rho → Res (List D) := fun ρ => (f ρ).bind fun x ρ1 => ofOpt (itemsL x) ρ1
def mItT (f : Rho → Res D) : Rho → Res (List D) := fun ρ => (f ρ).bind fun x ρ1 => ofOpt (itemsT x) ρ1
theorem m_itL (ha : PE X a (tE .pure g W f)) (hK : X.K = g.K := by rfl) : PI X tg a (tI g W (mItL f)) := pi_mono (pi_list ha) fun σ H R ⟨F, ρ, ok, h⟩ => by
  refine ⟨F, ρ, ok, Post.bind h fun d ρ1 x F1 H1 st ok1 hx h1 => ?_⟩
  rw [hK]
  cases hx with
  | lst e t => exact ⟨_, rfl, ⟨_, .of (ok1.sub _ _ e)⟩, h1.done ok1 (src_list e t)⟩
  | _ => exact h1.elim
theorem m_itT (ha : PE X a (tE .pure g W f)) (hK : X.K = g.K := by rfl) : PI X tg a (tI g W (mItT f)) := pi_mono (pi_tup ha) fun σ H R ⟨F, ρ, ok, h⟩ => by
  refine ⟨F, ρ, ok, Post.bind h fun d ρ1 x F1 H1 st ok1 hx h1 => ?_⟩
  rw [hK]
  cases hx with
  | tup e t => exact ⟨_, rfl, ⟨_, .of (ok1.sub _ _ e)⟩, h1.done ok1 (src_tup e t)⟩
  | _ => exact h1.elim
def mItA (o : List D → Option (List D)) (ks : Rho → Res (List D)) : Rho → Res (List D) := fun ρ => (ks ρ).bind fun xs ρ1 => ofOpt (o xs) ρ1
def rng1 : List D → Option (List D)
  | [.int j] => if -1000000 ≤ j ∧ j ≤ 1000000 then some (rngD 0 j.toNat) else none
  | _ => none
def rng2 : List D → Option (List D)
  | [.int i, .int j] => if (-1000000 ≤ i ∧ i ≤ 1000000) ∧ (-1000000 ≤ j ∧ j ≤ 1000000) then some (rngD i (j - i).toNat) else none
  | _ => none
theorem m_rng1 (hm : X.mg "range" = none) (ha : PA X [a] (tA g W ks)) (hg : Gl X "range" := by rfl) (hs : starEach [a] X.env = [(false, eval a X.env)] := by rfl) : PI X tg (.Call (.Name "range" p) [a] [] pos) (tI g W (mItA rng1 ks)) :=
  pi_mono (pi_range1 hg hm ha hs) fun σ H R ⟨F, ρ, ok, h⟩ => by
    refine ⟨F, ρ, ok, Post.bind h fun ds ρ1 xs F1 H1 st ok1 hx h1 => ?_⟩
    unfold rng1 at h1
    split at h1
    · cases hx with
      | cons q1 t1 =>
        cases t1
        cases q1
        rename_i j
        split at h1
        · rename_i z
          exact ⟨j, rfl, by omega, by omega, h1.done ok1 src_range⟩
        · exact h1.elim
    · exact h1.elim
theorem m_rng2 (hm : X.mg "range" = none) (ha : PA X [a, b] (tA g W ks)) (hg : Gl X "range" := by rfl) (hs : starEach [a, b] X.env = [(false, eval a X.env), (false, eval b X.env)] := by rfl) (hs2 : starEach [b] X.env = [(false, eval b X.env)] := by rfl) :
    PI X tg (.Call (.Name "range" p) [a, b] [] pos) (tI g W (mItA rng2 ks)) :=
  pi_mono (pi_range2 hg hm ha hs hs2) fun σ H R ⟨F, ρ, ok, h⟩ => by
    refine ⟨F, ρ, ok, Post.bind h fun ds ρ1 xs F1 H1 st ok1 hx h1 => ?_⟩
    unfold rng2 at h1
    split at h1
    · cases hx with
      | cons q1 t1 =>
        cases t1 with
        | cons q2 t2 =>
          cases t2
          cases q1
          cases q2
          rename_i i j
          split at h1
          · rename_i z
            exact ⟨i, j, rfl, ⟨by omega, by omega, by omega, by omega⟩, h1.done ok1 src_range⟩
          · exact h1.elim
    · exact h1.elim
def enumL : List D → Option (List D)
  | [.list xs] => some (enumD xs)
  | _ => none
theorem m_enumL {elts : List Expr} {kk : Nat} {tpos : Pos} (hm : X.mg "enumerate" = none) (ha : PA X [a] (tA g W ks)) (hK : X.K = g.K := by rfl) (hg : Gl X "enumerate" := by rfl) (hs : starEach [a] X.env = [(false, eval a X.env)] := by rfl) :
    PI X (.Tuple elts kk tpos) (.Call (.Name "enumerate" p) [a] [] pos) (tI g W (mItA enumL ks)) :=
  pi_mono (pi_enum hg hm ha hs) fun σ H R ⟨F, ρ, ok, h⟩ => by
    refine ⟨F, ρ, ok, Post.bind h fun ds ρ1 xs F1 H1 st ok1 hx h1 => ?_⟩
    rw [hK]
    unfold enumL at h1
    split at h1
    · cases hx with
      | cons q1 t1 =>
        cases t1
        cases q1 with
        | lst e t => exact ⟨_, _, rfl, .of (ok1.sub _ _ e), h1.done ok1 (src_enum e t)⟩
    · exact h1.elim
def zipA : List D → Option (List D)
  | [.list xs, .list ys] => some (zipD xs ys)
  | [.tuple xs, .tuple ys] => some (zipD xs ys)
  | _ => none
theorem m_zip {elts : List Expr} {kk : Nat} {tpos : Pos} (hm : X.mg "zip" = none) (ha : PA X [a, b] (tA g W ks)) (hK : X.K = g.K := by rfl) (hg : Gl X "zip" := by rfl) (hs : starEach [a, b] X.env = (false, eval a X.env) :: starEach [b] X.env := by rfl)
    (hpl : (backTo pos (starEach [b] X.env)).any (·.1) = false := by rfl) : PI X (.Tuple elts kk tpos) (.Call (.Name "zip" p) [a, b] [] pos) (tI g W (mItA zipA ks)) :=
  pi_mono (RZ.pi_zipA hg hm ha hs hpl) fun σ H R ⟨F, ρ, ok, h⟩ => by
    refine ⟨F, ρ, ok, Post.bind h fun ds ρ1 xs F1 H1 st ok1 hx h1 => ?_⟩
    rw [hK]
    unfold zipA at h1
    split at h1
    · cases hx with
      | cons q1 t1 =>
        cases t1 with
        | cons q2 t2 =>
          cases t2
          cases q1 with
          | lst e t => cases q2 with
            | lst e' t' => exact ⟨_, _, _, _, rfl, .inl ⟨.of (ok1.sub _ _ e), .of (ok1.sub _ _ e'), h1.done ok1 (src_zipL e t e' t')⟩⟩
    · cases hx with
      | cons q1 t1 =>
        cases t1 with
        | cons q2 t2 =>
          cases t2
          cases q1 with
          | tup e t => cases q2 with
            | tup e' t' => exact ⟨_, _, _, _, rfl, .inr ⟨.of (ok1.sub _ _ e), .of (ok1.sub _ _ e'), h1.done ok1 (src_zipT e t e' t')⟩⟩
    · exact h1.elim

/-- but the slots at is nothing is changed -/
def Chg (is : List Nat) (σ σ' : St) : Prop := σ'.length = σ.length ∧ ∀ i, i ∉ is → σ'[i]? = σ[i]?
theorem Chg.refl (is : List Nat) (σ : St) : Chg is σ σ := ⟨rfl, fun _ _ => rfl⟩
theorem Chg.trans {is : List Nat} {σ σ1 σ2 : St} (a : Chg is σ σ1) (b : Chg is σ1 σ2) : Chg is σ σ2 := ⟨b.1.trans a.1, fun i h => (b.2 i h).trans (a.2 i h)⟩
theorem Chg.mono {is js : List Nat} {σ σ1 : St} (a : Chg is σ σ1) (h : ∀ i ∈ is, i ∈ js) : Chg js σ σ1 := ⟨a.1, fun i n => a.2 i fun z => n (h i z)⟩
theorem Chg.set {i : Nat} {σ : St} {v : Option V} : Chg [i] σ (σ.set i v) := ⟨List.length_set, fun j h => List.getElem?_set_ne fun z => h (by simp [z])⟩
def setAll : List Nat → List D → Rho → Rho
  | i :: is, d :: ds, ρ => setAll is ds (ρ.set i (.fz d))
  | _, _, ρ => ρ
/-- a target: a name, a tuple of names -/
inductive Tgt where
  | name (i : Nat)
  | tup (is : List Nat)
  | nst (is js : List Nat)
def Tgt.slots : Tgt → List Nat
  | .name i => [i]
  | .tup is => is
  | .nst is js => is ++ js
def Tgt.put : Tgt → D → Rho → Option Rho
  | .name i, d, ρ => some (ρ.set i (.fz d))
  | .tup is, .tuple es, ρ => if es.length = is.length then some (setAll is es ρ) else none
  | .nst is js, .tuple (.tuple es :: fs), ρ => if es.length = is.length ∧ fs.length = js.length then some (setAll js fs (setAll is es ρ)) else none
  | _, _, _ => none
theorem put_tup {is : List Nat} {d : D} {ρ ρ' : Rho} (h : (Tgt.tup is).put d ρ = some ρ') : ∃ es, d = .tuple es ∧ es.length = is.length ∧ ρ' = setAll is es ρ := by
  unfold Tgt.put at h
  split at h
  · rename_i e; cases e
  · rename_i e; cases e
    split at h
    · rename_i q; cases h; exact ⟨_, rfl, q, rfl⟩
    · cases h
  · rename_i e; cases e
  · cases h
theorem put_nst {is js : List Nat} {d : D} {ρ ρ' : Rho} (h : (Tgt.nst is js).put d ρ = some ρ') : ∃ es fs, d = .tuple (.tuple es :: fs) ∧ es.length = is.length ∧ fs.length = js.length ∧ ρ' = setAll js fs (setAll is es ρ) := by
  unfold Tgt.put at h
  split at h
  · rename_i e; cases e
  · rename_i e; cases e
  · rename_i e; cases e
    split at h
    · rename_i q; cases h; exact ⟨_, _, rfl, q.1, q.2, rfl⟩
    · cases h
  · cases h
def NoPin (g : Gh) (i : Nat) : Prop := ∀ a, (i, a) ∉ g.P
theorem nopin {g : Gh} {i : Nat} (h : (g.P.map Prod.fst).contains i = false) : NoPin g i := fun a z => by
  have : i ∈ g.P.map Prod.fst := List.mem_map.mpr ⟨_, z, rfl⟩
  rw [← List.contains_iff_mem, h] at this
  cases this
def tG (g : Gh) (t : Tgt) : TG := fun v σ H Q => ∃ F ρ d ρ', Ok g F H σ ρ ∧ Dn g.K F v d ∧ t.put d ρ = some ρ' ∧ ∀ σ', Ok g F H σ' ρ' → Chg t.slots σ σ' → Q σ' H
def tGs (g : Gh) (is : List Nat) : TGs := fun vs σ H Q => ∃ F ρ ds, Ok g F H σ ρ ∧ DnAll g.K F vs ds ∧ ds.length = is.length ∧ ∀ σ', Ok g F H σ' (setAll is ds ρ) → Chg is σ σ' → Q σ' H
theorem pg_mono {tg : Expr} {t t' : TG} (h : PG X tg t) (w : ∀ v σ H Q, t' v σ H Q → t v σ H Q) : PG X tg t' := ⟨fun pins s σ H v u Q I r q => h.run pins s σ H v u Q I r (w v σ H Q q)⟩
theorem pgs_mono {tg : List Expr} {t t' : TGs} (h : PGs X tg t) (w : ∀ v σ H Q, t' v σ H Q → t v σ H Q) : PGs X tg t' := ⟨fun pins s σ H v u Q I r q => h.run pins s σ H v u Q I r (w v σ H Q q)⟩
theorem m_gname (i : Nat) {x : Str} (hp : NoPin g i) (hN : X.N.Nodup) (hi : X.N[i]? = some x := by rfl) (hx : Loc X.env.scope x := by first | exact Or.inl rfl | exact Or.inr rfl) (hf : X.fn x = true ∨ X.env.scope.names.lookup x = some .local := by first | exact .inl rfl | exact .inr rfl) :
    PG X (.Name x pos) (tG g (.name i)) := pg_mono (pg_name hN hi hx hf) fun v σ H Q ⟨F, ρ, d, ρ', ok, hd, e, q⟩ => by
  cases e
  exact q _ (ok.setFz hd hp) Chg.set
theorem m_gnil : PGs X [] (tGs g []) := pgs_mono pgs_nil fun v σ H Q ⟨F, ρ, ds, ok, hd, e, q⟩ => by
  cases ds with
  | nil => cases hd; exact ⟨rfl, q σ ok (Chg.refl _ _)⟩
  | cons _ _ => cases e
theorem m_gcons {i : Nat} {is : List Nat} {e : Expr} {es : List Expr} (hg : PG X e (tG g (.name i))) (hr : PGs X es (tGs g is)) (hs : (assignEach (e :: es) X.env).map (·.2) = assign e X.env :: (assignEach es X.env).map (·.2) := by rfl) : PGs X (e :: es) (tGs g (i :: is)) :=
  pgs_mono (pgs_cons hg hr hs) fun vs σ H Q ⟨F, ρ, ds, ok, hd, e, q⟩ => by
    cases hd with
    | nil => cases e
    | cons h t =>
      refine ⟨_, _, rfl, F, ρ, _, _, ok, h, rfl, fun σ1 ok1 c1 => ⟨F, _, _, ok1, t, Nat.succ.inj e, fun σ2 ok2 c2 => q σ2 ok2 ?_⟩⟩
      exact (c1.mono fun j hj => by simp [Tgt.slots] at hj; simp [hj]).trans (c2.mono fun j hj => List.mem_cons_of_mem _ hj)
theorem m_gtup {is : List Nat} {es : List Expr} {kk : Nat} (hc : X.calm = true) (h : PGs X es (tGs g is)) (hK : X.K = g.K := by rfl) (hn : (assignEach es X.env).length = is.length := by rfl) (hst : (assignEach es X.env).findIdx? (·.1) = none := by rfl) :
    PG X (.Tuple es kk pos) (tG g (.tup is)) := pg_mono (pg_tup hc h hn hst) fun v σ H Q ⟨F, ρ, d, ρ', ok, hd, e, q⟩ => by
  rw [hK]
  cases hd with
  | tup e1 t =>
    simp only [Tgt.put] at e
    split at e
    · rename_i z
      cases e
      exact ⟨_, _, rfl, .of (ok.sub _ _ e1), (dna_len t).trans z, F, ρ, _, ok, t, z, q⟩
    · cases e
  | _ => cases e
/-- (a, b), c, .. -/
theorem m_gnst {is js : List Nat} {e : Expr} {es : List Expr} {kk : Nat} (hc : X.calm = true) (h1 : PG X e (tG g (.tup is))) (h2 : PGs X es (tGs g js)) (hs : (assignEach (e :: es) X.env).map (·.2) = assign e X.env :: (assignEach es X.env).map (·.2) := by rfl) (hK : X.K = g.K := by rfl)
    (hn : (assignEach (e :: es) X.env).length = js.length + 1 := by rfl) (hst : (assignEach (e :: es) X.env).findIdx? (·.1) = none := by rfl) :
    PG X (.Tuple (e :: es) kk pos) (tG g (.nst is js)) := pg_mono (pg_tup hc (pgs_cons h1 h2 hs) hn hst) fun v σ H Q ⟨F, ρ, d, ρ', ok, hd, e, q⟩ => by
  rw [hK]
  obtain ⟨es, fs, rfl, l1, l2, rfl⟩ := put_nst e
  cases hd with
  | tup e1 t =>
    cases t with
    | cons a t =>
      refine ⟨_, _, rfl, .of (ok.sub _ _ e1), by rw [List.length_cons, dna_len t, l2], _, _, rfl, F, ρ, _, _, ok, a, by rw [Tgt.put, if_pos l1], fun σ1 ok1 c1 => ⟨F, _, fs, ok1, t, l2, fun σ2 ok2 c2 => q σ2 ok2 ?_⟩⟩
      exact (c1.mono fun j hj => by simp [Tgt.slots] at hj ⊢; exact .inl hj).trans (c2.mono fun j hj => by simp [Tgt.slots]; exact .inr hj)
end
end Mi
set_option Elab.async false
set_option linter.all false
set_option maxRecDepth 100000
namespace Mi
open PySem PySem.Spec L2

def wipeR : List Nat → Rho → Rho
  | [], ρ => ρ
  | v :: vs, ρ => (wipeR vs ρ).set v .un
def keepS : Slot → Slot
  | .fz d => .fz d
  | _ => .un
def backR : List Nat → Rho → Rho → Rho
  | [], _, ρ3 => ρ3
  | v :: vs, ρ, ρ3 => (backR vs ρ ρ3).set v (keepS (ρ.getD v .un))
theorem wipeR_len (ρ : Rho) : ∀ vs, (wipeR vs ρ).length = ρ.length
  | [] => rfl
  | v :: vs => by unfold wipeR; rw [List.length_set, wipeR_len ρ vs]
theorem backR_len (ρ ρ3 : Rho) : ∀ vs, (backR vs ρ ρ3).length = ρ3.length
  | [] => rfl
  | v :: vs => by unfold backR; rw [List.length_set, backR_len ρ ρ3 vs]
theorem wipeR_get {ρ : Rho} {i : Nat} {s : Slot} : ∀ {vs : List Nat}, (wipeR vs ρ)[i]? = some s → s = .un ∨ (i ∉ vs ∧ ρ[i]? = some s)
  | [], h => .inr ⟨by simp, h⟩
  | v :: vs, h => by
    unfold wipeR at h
    rcases getElem?_set_eq h with ⟨_, q⟩ | ⟨n, q⟩
    · exact .inl q.symm
    · rcases wipeR_get q with z | ⟨z1, z2⟩
      · exact .inl z
      · exact .inr ⟨by simp [n, z1], z2⟩
theorem backR_get {ρ ρ3 : Rho} {i : Nat} {s : Slot} : ∀ {vs : List Nat}, (backR vs ρ ρ3)[i]? = some s → (i ∈ vs ∧ s = keepS (ρ.getD i .un)) ∨ (i ∉ vs ∧ ρ3[i]? = some s)
  | [], h => .inr ⟨by simp, h⟩
  | v :: vs, h => by
    unfold backR at h
    rcases getElem?_set_eq h with ⟨e, q⟩ | ⟨n, q⟩
    · subst e; exact .inl ⟨List.mem_cons_self, q.symm⟩
    · rcases backR_get q with ⟨z1, z2⟩ | ⟨z1, z2⟩
      · exact .inl ⟨List.mem_cons_of_mem _ z1, z2⟩
      · exact .inr ⟨by simp [n, z1], z2⟩
theorem wipeR_out {ρ : Rho} {i : Nat} : ∀ {vs : List Nat}, i ∉ vs → (wipeR vs ρ)[i]? = ρ[i]?
  | [], _ => rfl
  | v :: vs, h => by
    unfold wipeR
    rw [List.getElem?_set_ne (fun e => h (by simp [e])), wipeR_out fun z => h (List.mem_cons_of_mem _ z)]
theorem backR_out {ρ ρ3 : Rho} {i : Nat} : ∀ {vs : List Nat}, i ∉ vs → (backR vs ρ ρ3)[i]? = ρ3[i]?
  | [], _ => rfl
  | v :: vs, h => by
    unfold backR
    rw [List.getElem?_set_ne (fun e => h (by simp [e])), backR_out fun z => h (List.mem_cons_of_mem _ z)]
theorem wipe_out' {σ : St} {i : Nat} : ∀ {vs : List Nat}, i ∉ vs → (wipe σ vs)[i]? = σ[i]? := fun h => wipe_out h
theorem wipe_in {σ : St} {i : Nat} : ∀ {vs : List Nat}, i ∈ vs → i < σ.length → (wipe σ vs)[i]? = some none
  | v :: vs, h, hl => by
    unfold wipe
    by_cases e : v = i
    · subst e
      rw [List.getElem?_set_self (by rw [wipe_length]; exact hl)]
    · rw [List.getElem?_set_ne e]
      exact wipe_in (by
        rcases List.mem_cons.mp h with z | z
        · exact absurd z.symm e
        · exact z) hl
theorem wipe_eq {σ σ2 : St} {vs : List Nat} (h : Chg vs (wipe σ vs) σ2) : wipe σ2 vs = wipe σ vs := by
  apply List.ext_getElem?
  intro i
  have hl : σ2.length = σ.length := by rw [h.1, wipe_length]
  by_cases hi : i ∈ vs
  · by_cases hb : i < σ.length
    · rw [wipe_in hi hb, wipe_in hi (by rw [hl]; exact hb)]
    · rw [List.getElem?_eq_none (by rw [wipe_length, hl]; omega), List.getElem?_eq_none (by rw [wipe_length]; omega)]
  · rw [wipe_out hi, h.2 i hi]

section
variable {g : Gh} {F H F3 H3 : Hp} {σ σ2 : St} {ρ ρ3 : Rho} {vs : List Nat}
theorem Ok.wipe (ok : Ok g F H σ ρ) (hp : ∀ i ∈ vs, NoPin g i) : Ok g F H (wipe σ vs) (wipeR vs ρ) where
  sub := ok.sub
  f0 := ok.f0
  fnew := ok.fnew
  keep := ok.keep
  there := ok.there
  len := by rw [wipe_length, wipeR_len]; exact ok.len
  fz := fun i d e => by
    rcases wipeR_get e with z | ⟨n, z⟩
    · cases z
    · rw [wipe_out n]; exact ok.fz i d z
  ow := fun i d e => by
    rcases wipeR_get e with z | ⟨n, z⟩
    · cases z
    · rw [wipe_out n]; exact ok.ow i d z
  inj := fun i j a d e h1 h2 h3 h4 => by
    rcases wipeR_get h1 with z | ⟨n, z⟩
    · cases z
    rcases wipeR_get h2 with z2 | ⟨n2, z2⟩
    · cases z2
    rw [wipe_out n] at h3
    rw [wipe_out n2] at h4
    exact ok.inj i j a d e z z2 h3 h4
  own := fun i a d h1 h2 => by
    rcases wipeR_get h1 with z | ⟨n, z⟩
    · cases z
    rw [wipe_out n] at h2
    exact ok.own i a d z h2
  pin := fun i a h => by
    have n : i ∉ vs := fun z => hp i z a h
    rw [wipe_out n, wipeR_out n]
    exact ok.pin i a h
/-- behind a turn of a block: the def's own slots again -/
theorem Ok.back (ok : Ok g F H σ ρ) (ok3 : Ok g F3 H3 σ2 ρ3) (ff : Same F F3) (hl : σ2.length = σ.length) (hc : ∀ i, i ∉ vs → σ2[i]? = σ[i]?) (hp : ∀ i ∈ vs, NoPin g i) : Ok g F3 H3 σ (backR vs ρ ρ3) where
  sub := ok3.sub
  f0 := ok3.f0
  fnew := ok3.fnew
  keep := ok3.keep
  there := ok3.there
  len := by rw [backR_len, ← hl]; exact ok3.len
  fz := fun i d e => by
    rcases backR_get e with ⟨_, z⟩ | ⟨n, z⟩
    · have q : ρ[i]? = some (.fz d) := by
        rw [List.getD_eq_getElem?_getD] at z
        cases w : ρ[i]? with
        | none => rw [w] at z; cases z
        | some s =>
          rw [w] at z
          cases s with
          | un => cases z
          | fz d' => cases z; rfl
          | ow d' => cases z
      obtain ⟨v, h1, h2⟩ := ok.fz i d q
      exact ⟨v, h1, dn_same ff h2⟩
    · rw [← hc i n]; exact ok3.fz i d z
  ow := fun i d e => by
    rcases backR_get e with ⟨_, z⟩ | ⟨n, z⟩
    · exfalso
      cases w : ρ.getD i .un <;> (rw [w] at z; cases z)
    · rw [← hc i n]; exact ok3.ow i d z
  inj := fun i j a d e h1 h2 h3 h4 => by
    rcases backR_get h1 with ⟨_, z⟩ | ⟨n, z⟩
    · exfalso
      cases w : ρ.getD i .un <;> (rw [w] at z; cases z)
    rcases backR_get h2 with ⟨_, z2⟩ | ⟨n2, z2⟩
    · exfalso
      cases w : ρ.getD j .un <;> (rw [w] at z2; cases z2)
    rw [← hc i n] at h3
    rw [← hc j n2] at h4
    exact ok3.inj i j a d e z z2 h3 h4
  own := fun i a d h1 h2 => by
    rcases backR_get h1 with ⟨_, z⟩ | ⟨n, z⟩
    · exfalso
      cases w : ρ.getD i .un <;> (rw [w] at z; cases z)
    rw [← hc i n] at h2
    exact ok3.own i a d z h2
  pin := fun i a h => by
    have n : i ∉ vs := fun z => hp i z a h
    rw [backR_out n, ← hc i n]
    exact ok3.pin i a h
theorem owned_back {a : Addr} (hc : ∀ i, i ∉ vs → σ2[i]? = σ[i]?) (h : Owned σ (backR vs ρ ρ3) a) : Owned σ2 ρ3 a := by
  obtain ⟨i, d, h1, h2⟩ := h
  rcases backR_get h1 with ⟨_, z⟩ | ⟨n, z⟩
  · exfalso
    cases w : ρ.getD i .un <;> (rw [w] at z; cases z)
  · exact ⟨i, d, z, by rw [hc i n]; exact h2⟩
theorem owned_wipe {a : Addr} (h : Owned (wipe σ vs) (wipeR vs ρ) a) : Owned σ ρ a := by
  obtain ⟨i, d, h1, h2⟩ := h
  rcases wipeR_get h1 with z | ⟨n, z⟩
  · cases z
  · exact ⟨i, d, z, by rw [← wipe_out n]; exact h2⟩
theorem setAll_get {i : Nat} {d : D} : ∀ {is : List Nat} {ds : List D} {ρ : Rho}, (setAll is ds ρ)[i]? = some (.ow d) → i ∉ is.take ds.length ∧ ρ[i]? = some (.ow d)
  | [], ds, ρ, h => ⟨by simp, by cases ds <;> exact h⟩
  | j :: is, [], ρ, h => ⟨by simp, h⟩
  | j :: is, e :: ds, ρ, h => by
    obtain ⟨h1, h2⟩ := setAll_get (is := is) (ds := ds) (show (setAll is ds (ρ.set j (.fz e)))[i]? = _ from h)
    rcases getElem?_set_eq h2 with ⟨_, q⟩ | ⟨n, q⟩
    · cases q
    · exact ⟨by simp [n, h1], q⟩
/-- a target makes no new owner -/
theorem owned_put {t : Tgt} {d : D} {ρ ρ' : Rho} {a : Addr} (e : t.put d ρ = some ρ') (hc : Chg t.slots σ σ2) (h : Owned σ2 ρ' a) : Owned σ ρ a := by
  obtain ⟨i, d', h1, h2⟩ := h
  cases t with
  | name j =>
    cases e
    rcases getElem?_set_eq h1 with ⟨_, q⟩ | ⟨n, q⟩
    · cases q
    · exact ⟨i, d', q, by rw [← hc.2 i (by simp [Tgt.slots, n])]; exact h2⟩
  | tup is =>
    obtain ⟨es, rfl, hl, rfl⟩ := put_tup e
    obtain ⟨n, q⟩ := setAll_get h1
    rw [hl, List.take_length] at n
    exact ⟨i, d', q, by rw [← hc.2 i (by simpa [Tgt.slots] using n)]; exact h2⟩
  | nst is js =>
    obtain ⟨es, fs, rfl, hl, hl2, rfl⟩ := put_nst e
    obtain ⟨n, q⟩ := setAll_get h1
    rw [hl2, List.take_length] at n
    obtain ⟨n2, q2⟩ := setAll_get q
    rw [hl, List.take_length] at n2
    exact ⟨i, d', q2, by rw [← hc.2 i (by simp [Tgt.slots, n, n2])]; exact h2⟩
end

/-- no exception leaves -/
def Res.nox {α : Type} : Res α → Res α
  | .ok a ρ => .ok a ρ
  | _ => .bad
@[simp] theorem Res.nox_ok {α : Type} (a : α) (ρ : Rho) : (Res.ok a ρ).nox = .ok a ρ := rfl
theorem lim_lt {n m i k : Nat} (h : n = m) (h1 : m ≤ i) (h2 : i < k) (h3 : k ≤ 1000000) : n < sizeLine := by rw [sizeLine_eq]; omega
/-- an object that nobody owns and that is not frozen is changed -/
theorem Ok.tmp {g : Gh} {F H : Hp} {σ : St} {ρ : Rho} {p : Addr} {o : HO} (ok : Ok g F H σ ρ) (hf : F p = none) (h0 : g.H0 p = none) (no : ¬ Owned σ ρ p) : Ok g F (upd H p o) σ ρ where
  sub := fun a u e => by rw [upd_ne (ne_of_none e hf)]; exact ok.sub a u e
  f0 := ok.f0
  fnew := ok.fnew
  keep := fun a u e n => by rw [upd_ne (ne_of_none e h0)]; exact ok.keep a u e n
  there := fun a n => by
    by_cases e : a = p
    · subst e; rw [upd_same]; exact fun z => nomatch z
    · rw [upd_ne e]; exact ok.there a n
  len := ok.len
  fz := ok.fz
  ow := fun i d e => by
    obtain ⟨a, h1, h2⟩ := ok.ow i d e
    have ne : a ≠ p := fun z => by subst z; exact no ⟨i, d, e, h1⟩
    exact ⟨a, h1, h2.mono (Same.refl _) h2.nf fun u q => by rw [upd_ne ne]; exact q⟩
  inj := ok.inj
  own := ok.own
  pin := ok.pin
theorem Step.tmp {σ : St} {ρ ρ' : Rho} {F H F' H' : Hp} {p : Addr} {o : HO} (st : Step σ ρ F H ρ' F' H') (hp : H p = none) : Step σ ρ F H ρ' F' (upd H' p o) where
  ff := st.ff
  kp := fun a u e n => by rw [upd_ne (ne_of_none e hp)]; exact st.kp a u e n
  fn := st.fn
  th := fun a n => by
    by_cases e : a = p
    · subst e; rw [upd_same]; exact fun z => nomatch z
    · rw [upd_ne e]; exact st.th a n
  sh := st.sh

def lcL (vs : List Nat) (t : Tgt) (ft : Rho → Res Bool) (fe : Rho → Res D) : List D → Rho → Res (List D)
  | [], ρ => .ok [] ρ
  | d :: ds, ρ => match t.put d (wipeR vs ρ) with
    | none => .bad
    | some ρ1 => (ft ρ1).nox.bind fun b ρ2 => if b then (fe ρ2).nox.bind fun y ρ3 => (lcL vs t ft fe ds (backR vs ρ ρ3)).bind fun ys ρ4 => .ok (y :: ys) ρ4 else lcL vs t ft fe ds (backR vs ρ ρ2)
def mLc (it : Rho → Res (List D)) (vs : List Nat) (t : Tgt) (ft : Rho → Res Bool) (fe : Rho → Res D) : Rho → Res D := fun ρ => (it ρ).bind fun ds ρ1 =>
  if ds.length ≤ 1000000 then (lcL vs t ft fe ds ρ1).bind fun ys ρ2 => .ok (.list ys) ρ2 else .bad
def mYes : Rho → Res Bool := fun ρ => .ok true ρ

/-- no exception is wished -/
abbrev W0 : WX := fun _ _ _ _ => False
theorem Res.bind_assoc {α β γ : Type} (r : Res α) (k : α → Rho → Res β) (l : β → Rho → Res γ) : (r.bind k).bind l = r.bind fun a ρ => (k a ρ).bind l := by cases r <;> rfl

section
variable {X : Cx} {g : Gh} {W : WX}
theorem tLcM {it : Rho → Res (List D)} {vs : List Nat} {t : Tgt} {ft : Rho → Res Bool} {fe : Rho → Res D} (hv : ∀ i ∈ t.slots, i ∈ vs) (hp : ∀ i ∈ vs, NoPin g i) {σ : St} {H : Hp} {Q : VK}
    (h : tE .fresh g W (mLc it vs t ft fe) σ H Q) :
    tLc (tI g W it) (tG g t) (tT g W0 ft) (tE .pure g W0 fe) vs σ H Q := by
  obtain ⟨F, ρ, ok, h⟩ := h
  refine ⟨F, ρ, ok, Post.bind h fun ds ρ1 J F1 H1 st ok1 sr h1 => ?_⟩
  split at h1
  · rename_i hlen
    intro A hA
    refine ⟨fun i m H2 => m = ds.length - i ∧ i ≤ ds.length ∧ ∃ F2 ρ2 acc accD, Ok g F2 H2 σ ρ2 ∧ Step σ ρ1 F1 H1 ρ2 F2 H2 ∧ H2 A = some (.lst acc) ∧ F2 A = none ∧ ¬ Owned σ ρ2 A ∧ DnAll g.K F2 acc accD ∧ accD.length ≤ i ∧
      Post g W σ (rE .fresh g σ) F1 H1 ρ1 ((lcL vs t ft fe (ds.drop i) ρ2).bind fun ys ρ3 => .ok (.list (accD ++ ys)) ρ3) Q, ⟨ds.length, ?_⟩, ?_⟩
    · exact ⟨by omega, Nat.zero_le _, F1, ρ1, [], [], ok1.new hA, Step.new hA, upd_same, ok1.nf hA, ok1.notOwned hA, .nil, Nat.le_refl _, h1⟩
    · rintro i m H2 ⟨rfl, hi, F2, ρ2, acc, accD, ok2, st2, hD, hF, hO, hacc, hal, hpost⟩
      by_cases hlt : i < ds.length
      · refine .inr ⟨sr.goes i H2 hlt (st2.ff.trans ok2.sub), ?_⟩
        have hdrop : ds.drop i = ds[i] :: ds.drop (i + 1) := List.drop_eq_getElem_cons hlt
        rw [hdrop] at hpost
        unfold lcL at hpost
        cases e : t.put ds[i] (wipeR vs ρ2) with
        | none => rw [e] at hpost; exact hpost.elim
        | some ρ3 =>
          rw [e] at hpost
          dsimp only at hpost
          refine ⟨fun H3 => i + 1 ≤ ds.length ∧ ∃ F2 ρ2 acc accD, Ok g F2 H3 σ ρ2 ∧ Step σ ρ1 F1 H1 ρ2 F2 H3 ∧ H3 A = some (.lst acc) ∧ F2 A = none ∧ ¬ Owned σ ρ2 A ∧ DnAll g.K F2 acc accD ∧ accD.length ≤ i + 1 ∧
            Post g W σ (rE .fresh g σ) F1 H1 ρ1 ((lcL vs t ft fe (ds.drop (i + 1)) ρ2).bind fun ys ρ3 => .ok (.list (accD ++ ys)) ρ3) Q, fun H3 hN => ⟨ds.length - (i + 1), by omega, rfl, hN⟩, fun x H' hy => ?_⟩
          -- the item
          obtain ⟨d, hd1, hd2⟩ := sr.yld i H2 x H' hlt (st2.ff.trans ok2.sub) hy
          have ed : d = ds[i] := by rw [List.getElem?_eq_getElem hlt] at hd1; exact (Option.some.inj hd1).symm
          subst ed
          have item : ∃ F3, Ok g F3 H' σ ρ2 ∧ Step σ ρ2 F2 H2 ρ2 F3 H' ∧ Dn g.K F3 x ds[i] := by
            rcases hd2 with ⟨q1, q2⟩ | ⟨T, us, es, q1, q2, q3, q4, q5⟩ | ⟨T, us, es, q1, q2, q3, q4, q5⟩
            · subst q1
              exact ⟨F2, ok2, Step.rfl', dn_same st2.ff q2⟩
            · subst q1 q3
              rw [q4]
              have sf : Same F2 (upd F2 T (.tup us)) := same_new (ok2.nf q2)
              exact ⟨upd F2 T (.tup us), ok2.newF q2, Step.newF (ok2.nf q2) q2, .tup upd_same (dna_same (st2.ff.trans sf) q5)⟩
            · subst q1 q3
              rw [q4]
              obtain ⟨F3, k1, k2, k3⟩ := ok2.tupF q2
              exact ⟨F3, k1, k2, .tup k3 (dna_same (st2.ff.trans k2.ff) q5)⟩
          obtain ⟨F3, ok3, st3, hx3⟩ := item
          refine ⟨F3, wipeR vs ρ2, ds[i], ρ3, ok3.wipe hp, hx3, e, fun σ2 ok4 chg => ?_⟩
          have chg' : Chg vs (wipe σ vs) σ2 := chg.mono hv
          have hl2 : σ2.length = σ.length := by rw [chg'.1, wipe_length]
          have hc2 : ∀ i, i ∉ vs → σ2[i]? = σ[i]? := fun i n => by rw [chg'.2 i n, wipe_out n]
          have own4 : ∀ a, Owned σ2 ρ3 a → Owned σ ρ2 a := fun a z => owned_wipe (owned_put e chg z)
          refine ⟨wipe_eq chg', F3, ρ3, ok4, ?_⟩
          -- how a turn ends: from the state behind it
          have fin : ∀ {F5 H5 : Hp} {ρ5 : Rho}, Ok g F5 H5 σ2 ρ5 → Step σ2 ρ3 F3 H' ρ5 F5 H5 → Ok g F5 H5 σ (backR vs ρ2 ρ5) ∧ Step σ ρ1 F1 H1 (backR vs ρ2 ρ5) F5 H5 ∧ H5 A = some (.lst acc) ∧ F5 A = none ∧ ¬ Owned σ (backR vs ρ2 ρ5) A ∧ DnAll g.K F5 acc accD := by
            intro F5 H5 ρ5 ok5 st5
            have ff : Same F2 F5 := st3.ff.trans st5.ff
            have hA' : H' A = some (.lst acc) := st3.kp A _ hD hO
            have hO3 : ¬ Owned σ2 ρ3 A := fun z => hO (own4 A z)
            have hA5 : H5 A = some (.lst acc) := st5.kp A _ hA' hO3
            have stT : Step σ ρ2 F2 H2 (backR vs ρ2 ρ5) F5 H5 := by
              refine ⟨ff, fun a o q n => st5.kp a o (st3.kp a o q n) fun z => n (own4 a z), fun a n => ?_, fun a n => st5.th a (st3.th a n), fun a z => own4 a (st5.sh a (owned_back hc2 z))⟩
              rcases st5.fn a n with z | z | z
              · exact st3.fn a z
              · exact .inr (st3.nw z)
              · exact .inr (.inr (own4 a z))
            refine ⟨ok3.back ok5 st5.ff hl2 hc2 hp, st2.trans stT, hA5, ?_, fun z => hO (stT.sh A z), dna_same ff hacc⟩
            exact Classical.byContradiction fun n => by
              rcases stT.fn A n with z | z | z
              · exact z hF
              · exact z.lst hD
              · exact hO z
          -- the test
          cases hb : ft ρ3 with
          | bad => rw [hb] at hpost; exact hpost.elim
          | ex n ρ5 => rw [hb] at hpost; exact hpost.elim
          | ok b ρ5 =>
            rw [hb] at hpost
            intro b' F5 H5 st5 ok5 eb
            have eb' : b' = b := eb
            subst eb'
            cases b' with
            | false =>
              obtain ⟨f1, f2, f3, f4, f5, f6⟩ := fin ok5 st5
              exact ⟨hlt, F5, _, acc, accD, f1, f2, f3, f4, f5, f6, by omega, hpost⟩
            | true =>
              refine ⟨F5, ρ5, ok5, ?_⟩
              rw [Res.nox_ok, Res.bind_ok, if_pos rfl] at hpost
              cases hy2 : fe ρ5 with
              | bad => rw [hy2] at hpost; exact hpost.elim
              | ex n ρ6 => rw [hy2] at hpost; exact hpost.elim
              | ok y ρ6 =>
                rw [hy2] at hpost
                intro yv F6 H6 st6 ok6 hyv
                obtain ⟨f1, f2, f3, f4, f5, f6⟩ := fin ok6 (st5.trans st6)
                have hle : acc.length = accD.length := dna_len f6
                refine ⟨acc, f3, lim_lt hle hal hlt hlen, hlt, F6, _, acc ++ [yv], accD ++ [y], f1.tmp f4 (ok1.nh0 hA) f5, f2.tmp hA, upd_same, f4, f5, dna_app f6 (.cons hyv .nil), by rw [List.length_append, List.length_singleton]; omega, ?_⟩
                rw [Res.nox_ok, Res.bind_ok, Res.bind_assoc] at hpost
                have e2 : (fun ys ρ3 => (Res.ok (PyData.list (accD ++ [y] ++ ys)) ρ3 : Res D)) = fun ys ρ3 => .ok (.list (accD ++ y :: ys)) ρ3 := by
                  funext ys ρ3
                  rw [List.append_assoc, List.singleton_append]
                rw [e2]
                exact hpost
      · have e : i = ds.length := by omega
        subst e
        refine .inl ⟨sr.stops H2 (st2.ff.trans ok2.sub), ?_⟩
        rw [List.drop_length] at hpost
        have hpost' : Post g W σ (rE .fresh g σ) F1 H1 ρ1 (.ok (.list (accD ++ [])) ρ2) Q := hpost
        rw [List.append_nil] at hpost'
        exact hpost' (.ref A) F2 H2 st2 ok2 ⟨A, rfl, hA, .lst hF hD hacc, hO⟩
  · exact h1.elim
/-- the names of a block; its target; its test; its element -/
theorem m_lc {elt tg iter : Expr} {ifs : List Expr} {scope : Scope} {own : List (Str × Nat)} {pos : Pos} {t : Tgt} {it : Rho → Res (List D)} {ft : Rho → Res Bool} {fe : Rho → Res D}
    (hN : X.N.Nodup) (hi : PI X tg iter (tI g W it)) (ok : blkC X.N X.env.scope scope own = true)
    (hg : ∀ (s : Shared) (H : Hp) (C : Addr) (cl : List (Str × Addr)) (fp : List Addr), PG (X.blk s H scope (compEnvC scope cl C X.env) fp) tg (tG g t)) (ht : ∀ (s : Shared) (H : Hp) (C : Addr) (cl : List (Str × Addr)) (fp : List Addr), PTs (X.blk s H scope (compEnvC scope cl C X.env) fp) ifs (tT g W0 ft))
    (he : ∀ (s : Shared) (H : Hp) (C : Addr) (cl : List (Str × Addr)) (fp : List Addr), PE (X.blk s H scope (compEnvC scope cl C X.env) fp) elt (tE .pure g W0 fe)) (hp : ∀ i ∈ own.map (·.2), NoPin g i) (hv : ∀ i ∈ t.slots, i ∈ own.map (·.2) := by decide) (hc : X.calm = true := by rfl)
    (hs : ∀ x, foldedSetIterable iter X.env x = pure x := by intro _; rfl) :
    PE X (.ListComp elt [⟨tg, iter, ifs, 0⟩] scope pos) (tE .fresh g W (mLc it (own.map (·.2)) t ft fe)) :=
  pe_mono (pe_lc hc hN hi (blkOk_by ok) hg ht he hs) fun _ _ _ h => tLcM hv hp h
theorem m_yes {X : Cx} : PTs X [] (tT g W mYes) := by
  have h := pts_nil (X := X)
  exact ⟨fun pins s σ H Q I ⟨F, ρ, ok, q⟩ => h.run pins s σ H Q I (q.done ok rfl)⟩
end
end Mi
set_option Elab.async false
set_option linter.all false
set_option maxRecDepth 100000
namespace Mi
open PySem PySem.Spec L2

inductive SR where
  | nx (ρ : Rho)
  | rt (d : D) (ρ : Rho)
  | rf (d : D) (ρ : Rho)
  | bk (ρ : Rho)
  | ct (ρ : Rho)
  | ex (n : Str) (ρ : Rho)
  | bad
def PostS (g : Gh) (W : WX) (F : Hp) (r : SR) (E : Ends) : Prop := match r with
  | .nx ρ' => ∀ σ' F' H', Same F F' → Ok g F' H' σ' ρ' → E.nx σ' H'
  | .rt d ρ' => ∀ v σ' F' H', Same F F' → Ok g F' H' σ' ρ' → Dn g.K F' v d → E.rt v H'
  | .rf d ρ' => ∀ a σ' F' H', Same F F' → Ok g F' H' σ' ρ' → OwnD g.K F' H' a d → ¬ Owned σ' ρ' a → g.H0 a = none → E.rt (.ref a) H'
  | .bk ρ' => ∀ σ' F' H', Same F F' → Ok g F' H' σ' ρ' → E.bk σ' H'
  | .ct ρ' => ∀ σ' F' H', Same F F' → Ok g F' H' σ' ρ' → E.ct σ' H'
  | .ex n ρ' => ∀ σ' F' H' cls, g.mg n = some cls → Same F F' → Ok g F' H' σ' ρ' → W cls none σ' H'
  | .bad => False
def tS (g : Gh) (W : WX) (f : Rho → SR) : TS := fun E σ H => ∃ F ρ, Ok g F H σ ρ ∧ PostS g W F (f ρ) E
def Res.toS {α : Type} : Res α → (α → Rho → SR) → SR
  | .ok a ρ, k => k a ρ
  | .ex n ρ, _ => .ex n ρ
  | .bad, _ => .bad
@[simp] theorem Res.toS_ok {α : Type} (a : α) (ρ : Rho) (k : α → Rho → SR) : (Res.ok a ρ).toS k = k a ρ := rfl
@[simp] theorem Res.toS_ex {α : Type} (n : Str) (ρ : Rho) (k : α → Rho → SR) : (Res.ex n ρ : Res α).toS k = .ex n ρ := rfl
@[simp] theorem Res.toS_bad {α : Type} (k : α → Rho → SR) : (Res.bad : Res α).toS k = .bad := rfl

section
variable {g : Gh} {W : WX} {F F1 : Hp} {E : Ends}
theorem PostS.shift {r : SR} (e : Same F F1) (h : PostS g W F r E) : PostS g W F1 r E := by
  cases r with
  | nx ρ => exact fun σ' F' H' ff => h σ' F' H' (e.trans ff)
  | rt d ρ => exact fun v σ' F' H' ff => h v σ' F' H' (e.trans ff)
  | rf d ρ => exact fun v σ' F' H' ff => h v σ' F' H' (e.trans ff)
  | bk ρ => exact fun σ' F' H' ff => h σ' F' H' (e.trans ff)
  | ct ρ => exact fun σ' F' H' ff => h σ' F' H' (e.trans ff)
  | ex n ρ => exact fun σ' F' H' cls hm ff => h σ' F' H' cls hm (e.trans ff)
  | bad => exact h
/-- from an expression's end to a statement's -/
theorem Post.toS {α β : Type} {σ : St} {R : RT α β} {H : Hp} {ρ : Rho} {r : Res α} {k : α → Rho → SR} {C : β → Hp → Prop} (ok : Ok g F H σ ρ) (h : PostS g W F (r.toS k) E)
    (hk : ∀ a ρ1 v F1 H1, Step σ ρ F H ρ1 F1 H1 → Ok g F1 H1 σ ρ1 → R H ρ1 F1 H1 v a → PostS g W F1 (k a ρ1) E → C v H1) : Post g W σ R F H ρ r C := by
  cases r with
  | ok a ρ1 => exact fun v F1 H1 st ok1 r1 => hk a ρ1 v F1 H1 st ok1 r1 (PostS.shift st.ff h)
  | ex n ρ1 => exact fun F' H' cls hm ff ok1 => h σ F' H' cls hm ff ok1
  | bad => exact h
variable {X : Cx} {pos : Pos} {e : Expr} {st : Stmt} {sts : List Stmt} {f k : Rho → SR} {fe : Rho → Res D} {m : RM}
def mPass : Rho → SR := fun ρ => .nx ρ
def mSeq (f k : Rho → SR) : Rho → SR := fun ρ => match f ρ with
  | .nx ρ1 => k ρ1
  | r => r
theorem m_sNil : PSs X [] (tS g W mPass) := pss_mono pss_nil fun D σ H ⟨F, ρ, ok, h⟩ => h σ F H (Same.refl _) ok
theorem m_sOne (h : PS X st (tS g W f)) : PSs X [st] (tS g W f) := pss_one h
theorem m_sCons (h1 : PS X st (tS g W f)) (h2 : PSs X sts (tS g W k)) : PSs X (st :: sts) (tS g W (mSeq f k)) := pss_mono (pss_cons h1 h2) fun D σ H ⟨F, ρ, ok, h⟩ => by
  refine ⟨F, ρ, ok, ?_⟩
  unfold mSeq at h
  cases q : f ρ with
  | nx ρ1 => rw [q] at h; exact fun σ' F' H' ff ok' => ⟨F', ρ1, ok', PostS.shift ff h⟩
  | rt d ρ1 => rw [q] at h; exact h
  | rf d ρ1 => rw [q] at h; exact h
  | bk ρ1 => rw [q] at h; exact h
  | ct ρ1 => rw [q] at h; exact h
  | ex n ρ1 => rw [q] at h; exact h
  | bad => rw [q] at h; exact h
theorem m_pass : PS X (.Pass pos) (tS g W mPass) := ps_mono ps_pass fun D σ H ⟨F, ρ, ok, h⟩ => h σ F H (Same.refl _) ok
def slotM (m : RM) (d : D) : Slot := match m with
  | .pure => .fz d
  | .fresh => .ow d
def mSet (m : RM) (i : Nat) (f : Rho → Res D) : Rho → SR := fun ρ => (f ρ).toS fun d ρ1 => .nx (ρ1.set i (slotM m d))
theorem Ok.put {σ : St} {H0 H : Hp} {ρ : Rho} {i : Nat} {v : V} {d : D} (ok : Ok g F H σ ρ) (hp : NoPin g i) (h0 : ∀ a, H0 a = none → g.H0 a = none) (r : rE m g σ H0 ρ F H v d) : Ok g F H (σ.set i (some v)) (ρ.set i (slotM m d)) := by
  cases m with
  | pure => exact ok.setFz r hp
  | fresh =>
    obtain ⟨a, rfl, h1, h2, h3⟩ := r
    exact ok.setOw h2 h3 (h0 a h1) hp
theorem tAsgM {i : Nat} {te : TE} {D : Ends} {σ : St} {H : Hp} (hp : NoPin g i) (ht : te = tE m g W fe) (h : tS g W (mSet m i fe) D σ H) : tAsg te (gName i) D σ H := by
  subst ht
  obtain ⟨F, ρ, ok, h⟩ := h
  exact ⟨F, ρ, ok, Post.toS ok h fun d ρ1 v F1 H1 st ok1 r h1 => h1 _ F1 H1 (Same.refl _) (ok1.put hp (fun a => ok.nh0) r)⟩
theorem m_set (m : RM) (i : Nat) {x : Str} {pos' : Pos} (hp : NoPin g i) (hN : X.N.Nodup) (he : PE X e (tE m g W fe)) (hi : X.N[i]? = some x := by rfl) (hx : Loc X.env.scope x := by first | exact Or.inl rfl | exact Or.inr rfl)
    (hs : swapsWith e (some (.Name x pos')) pos.line X.env = pure false := by rfl) (hf : X.fn x = true ∨ X.env.scope.names.lookup x = some .local := by first | exact .inl rfl | exact .inr rfl) : PS X (.Assign [.Name x pos'] e pos) (tS g W (mSet m i fe)) :=
  ps_mono (ps_set hN hi hx he hs hf) fun _ _ _ h => tAsgM hp rfl h
/-- y = [..], y a plain local -/
theorem m_setLc (i : Nat) {y : Str} {elt tg iter : Expr} {ifs : List Expr} {scope : Scope} {own : List (Str × Nat)} {py spos : Pos} {t : Tgt} {it : Rho → Res (List D)} {ft : Rho → Res Bool} {fe : Rho → Res D} (hpi : NoPin g i)
    (hN : X.N.Nodup) (hi : PI X tg iter (tI g W it)) (ok : blkC X.N X.env.scope scope own = true)
    (hg : ∀ (s : Shared) (H : Hp) (C : Addr) (cl : List (Str × Addr)) (fp : List Addr), PG (X.blk s H scope (compEnvC scope cl C X.env) fp) tg (tG g t)) (ht : ∀ (s : Shared) (H : Hp) (C : Addr) (cl : List (Str × Addr)) (fp : List Addr), PTs (X.blk s H scope (compEnvC scope cl C X.env) fp) ifs (tT g W0 ft))
    (he : ∀ (s : Shared) (H : Hp) (C : Addr) (cl : List (Str × Addr)) (fp : List Addr), PE (X.blk s H scope (compEnvC scope cl C X.env) fp) elt (tE .pure g W0 fe)) (hp : ∀ i ∈ own.map (·.2), NoPin g i) (hy : X.N[i]? = some y := by rfl) (hyl : X.env.scope.names.lookup y = some .local := by rfl)
    (hsw : swapsWith (.ListComp elt [⟨tg, iter, ifs, 0⟩] scope pos) (some (.Name y py)) spos.line X.env = pure true := by exact sw_true rfl rfl rfl (by decide +kernel)) (hv : ∀ i ∈ t.slots, i ∈ own.map (·.2) := by decide) (hc : X.calm = true := by rfl)
    (hs : ∀ x, foldedSetIterable iter X.env x = pure x := by intro _; rfl) :
    PS X (.Assign [.Name y py] (.ListComp elt [⟨tg, iter, ifs, 0⟩] scope pos) spos) (tS g W (mSet .fresh i (mLc it (own.map (·.2)) t ft fe))) :=
  ps_mono (ps_setLc hc hN hy hyl hsw hi (blkOk_by ok) hg ht he hs) fun D σ H ⟨F, ρ, ok, h⟩ =>
    tLcM hv hp (Q := fun x H1 => gName i x σ H1 D.nx) (W := W) ⟨F, ρ, ok, Post.toS ok h fun d ρ1 v F1 H1 st ok1 r h1 => h1 _ F1 H1 (Same.refl _) (ok1.put hpi (fun a => ok.nh0) r)⟩
/-- .. the list frozen at once -/
def mSetLF (i : Nat) (f : Rho → Res D) : Rho → SR := fun ρ => (f ρ).toS fun d ρ1 => if isLst d then .nx (ρ1.set i (.fz d)) else .bad
theorem lc_frz {it : Rho → Res (List D)} {vs : List Nat} {t : Tgt} {ft : Rho → Res Bool} {fe : Rho → Res D} {i : Nat} (hpi : NoPin g i) {D : Ends} {σ : St} {H F : Hp} {ρ : Rho} (ok : Ok g F H σ ρ) (h : PostS g W F (mSetLF i fe ρ) D) :
    Post g W σ (rE .fresh g σ) F H ρ (fe ρ) fun x H1 => gName i x σ H1 D.nx := by
  unfold mSetLF at h
  cases q : fe ρ with
  | ok d ρ1 =>
    rw [q] at h
    intro x F1 H1 st ok1 hx
    obtain ⟨p, rfl, hp, hd, no⟩ := hx
    cases hd with
    | lst hf hh hds =>
      rename_i vs ds
      have sf : Same F1 (upd F1 p (.lst vs)) := same_new hf
      exact h _ (upd F1 p (.lst vs)) H1 (st.ff.trans sf) ((ok1.frz hh (.inl (ok.nh0 hp)) hf no).setFz (.lst upd_same (dna_same sf hds)) hpi)
    | dK _ _ _ _ => exact h.elim
    | dT _ _ _ _ => exact h.elim
  | ex n ρ1 => rw [q] at h; exact fun F' H' cls hm ff ok1 => h σ F' H' cls hm ff ok1
  | bad => rw [q] at h; exact h
theorem m_setLcF (i : Nat) {y : Str} {elt tg iter : Expr} {ifs : List Expr} {scope : Scope} {own : List (Str × Nat)} {py spos : Pos} {t : Tgt} {it : Rho → Res (List D)} {ft : Rho → Res Bool} {fe : Rho → Res D} (hpi : NoPin g i)
    (hN : X.N.Nodup) (hi : PI X tg iter (tI g W it)) (ok : blkC X.N X.env.scope scope own = true)
    (hg : ∀ (s : Shared) (H : Hp) (C : Addr) (cl : List (Str × Addr)) (fp : List Addr), PG (X.blk s H scope (compEnvC scope cl C X.env) fp) tg (tG g t)) (ht : ∀ (s : Shared) (H : Hp) (C : Addr) (cl : List (Str × Addr)) (fp : List Addr), PTs (X.blk s H scope (compEnvC scope cl C X.env) fp) ifs (tT g W0 ft))
    (he : ∀ (s : Shared) (H : Hp) (C : Addr) (cl : List (Str × Addr)) (fp : List Addr), PE (X.blk s H scope (compEnvC scope cl C X.env) fp) elt (tE .pure g W0 fe)) (hp : ∀ i ∈ own.map (·.2), NoPin g i) (hy : X.N[i]? = some y := by rfl) (hyl : X.env.scope.names.lookup y = some .local := by rfl)
    (hsw : swapsWith (.ListComp elt [⟨tg, iter, ifs, 0⟩] scope pos) (some (.Name y py)) spos.line X.env = pure true := by exact sw_true rfl rfl rfl (by decide +kernel)) (hv : ∀ i ∈ t.slots, i ∈ own.map (·.2) := by decide) (hc : X.calm = true := by rfl)
    (hs : ∀ x, foldedSetIterable iter X.env x = pure x := by intro _; rfl) :
    PS X (.Assign [.Name y py] (.ListComp elt [⟨tg, iter, ifs, 0⟩] scope pos) spos) (tS g W (mSetLF i (mLc it (own.map (·.2)) t ft fe))) :=
  ps_mono (ps_setLc hc hN hy hyl hsw hi (blkOk_by ok) hg ht he hs) fun D σ H ⟨F, ρ, ok, h⟩ =>
    tLcM hv hp (Q := fun x H1 => gName i x σ H1 D.nx) (W := W) ⟨F, ρ, ok, lc_frz (it := it) (vs := own.map (·.2)) (t := t) (ft := ft) (fe := mLc it (own.map (·.2)) t ft fe) hpi ok h⟩
/-- a target that takes a tuple apart; any target -/
def mAsg (t : Tgt) (f : Rho → Res D) : Rho → SR := fun ρ => (f ρ).toS fun d ρ1 => match t.put d ρ1 with
  | some ρ2 => .nx ρ2
  | none => .bad
theorem m_asg {t : Tgt} {tg : Expr} (he : PE X e (tE .pure g W fe)) (hg : PG X tg (tG g t)) (hs : swapsWithSole [tg] e pos.line X.env = pure false := by rfl) (hw : swappedStores [tg] e X.env = pure none := by rfl)
    (h1 : (assignEach [tg] X.env).map (·.2) = [assign tg X.env] := by rfl) : PS X (.Assign [tg] e pos) (tS g W (mAsg t fe)) := ps_mono (ps_asg he hg hs hw h1) fun D σ H ⟨F, ρ, ok, h⟩ =>
  ⟨F, ρ, ok, Post.toS ok h fun d ρ1 v F1 H1 st ok1 r h1 => by
    cases q : t.put d ρ1 with
    | none => rw [q] at h1; exact h1.elim
    | some ρ2 => rw [q] at h1; exact ⟨F1, ρ1, d, ρ2, ok1, r, q, fun σ' ok2 _ => h1 σ' F1 H1 (Same.refl _) ok2⟩⟩
def mDrop (f : Rho → Res D) : Rho → SR := fun ρ => (f ρ).toS fun _ ρ1 => .nx ρ1
theorem m_expr (he : PE X e (tE .pure g W fe)) (hs : swapsWith e none pos.line X.env = pure false := by rfl) : PS X (.Expr e pos) (tS g W (mDrop fe)) := ps_mono (ps_expr he hs) fun D σ H ⟨F, ρ, ok, h⟩ =>
  ⟨F, ρ, ok, Post.toS ok h fun d ρ1 v F1 H1 st ok1 r h1 => h1 σ F1 H1 (Same.refl _) ok1⟩
def mRet (f : Rho → Res D) : Rho → SR := fun ρ => (f ρ).toS fun d ρ1 => .rt d ρ1
def mRetF (f : Rho → Res D) : Rho → SR := fun ρ => (f ρ).toS fun d ρ1 => .rf d ρ1
theorem m_ret (he : PE X e (tE .pure g W fe)) : PS X (.Return (some e) pos) (tS g W (mRet fe)) := ps_mono (ps_ret he) fun D σ H ⟨F, ρ, ok, h⟩ =>
  ⟨F, ρ, ok, Post.toS ok h fun d ρ1 v F1 H1 st ok1 r h1 => h1 v σ F1 H1 (Same.refl _) ok1 r⟩
theorem m_retF (he : PE X e (tE .fresh g W fe)) : PS X (.Return (some e) pos) (tS g W (mRetF fe)) := ps_mono (ps_ret he) fun D σ H ⟨F, ρ, ok, h⟩ =>
  ⟨F, ρ, ok, Post.toS ok h fun d ρ1 v F1 H1 st ok1 r h1 => by
    obtain ⟨a, rfl, q1, q2, q3⟩ := r
    exact h1 a σ F1 H1 (Same.refl _) ok1 q2 q3 (ok.nh0 q1)⟩
def mRetN : Rho → SR := fun ρ => .rt .none ρ
theorem m_retN : PS X (.Return none pos) (tS g W mRetN) := ps_mono ps_retN fun D σ H ⟨F, ρ, ok, h⟩ => h .non σ F H (Same.refl _) ok .non
/-- return x, x an own thing -/
def mRetO (i : Nat) : Rho → SR := fun ρ => match ρ[i]? with
  | some (.ow d) => .rf d (ρ.set i .un)
  | _ => .bad
theorem m_retO (i : Nat) {x : Str} {p : Pos} (hp : NoPin g i) (hN : X.N[i]? = some x := by rfl) (hv : Vis X.env.scope x := by first | exact Or.inl rfl | exact Or.inr (Or.inl rfl) | exact Or.inr (Or.inr rfl)) (hd : (x == ("__debug__" : Str)) = false := by decide)
    (hcd : (x == ("__classdict__" : Str)) = false := by decide) : PS X (.Return (some (.Name x p)) pos) (tS g W (mRetO i)) := ps_mono (ps_ret (pe_var hN hv hd hcd)) fun D σ H ⟨F, ρ, ok, h⟩ => by
  unfold mRetO at h
  split at h
  · rename_i d q
    obtain ⟨a, h1, h2⟩ := ok.ow i d q
    refine ⟨_, h1, h a σ F H (Same.refl _) (ok.drop hp) h2 ?_ ?_⟩
    · rintro ⟨j, d', e1, e2⟩
      rcases getElem?_set_eq e1 with ⟨_, z⟩ | ⟨n, z⟩
      · cases z
      · exact n (ok.inj j i a d' d z q e2 h1)
    · rcases ok.own i a d q h1 with z | z
      · exact z
      · exact absurd z (hp a)
  · exact h.elim
def mIfS (c : Rho → Res Bool) (f k : Rho → SR) : Rho → SR := fun ρ => (c ρ).toS fun b ρ1 => if b then f ρ1 else k ρ1
theorem m_ifS {c : Expr} {as bs : List Stmt} {ft : Rho → Res Bool} (hc : PT X c (tT g W ft)) (ha : PSs X as (tS g W f)) (hb : PSs X bs (tS g W k)) : PS X (.If c as bs pos) (tS g W (mIfS ft f k)) :=
  ps_mono (ps_if hc ha hb) fun D σ H ⟨F, ρ, ok, h⟩ => ⟨F, ρ, ok, Post.toS ok h fun b ρ1 b' F1 H1 st ok1 r h1 => by
    have e : b' = b := r
    subst e
    cases b' with
    | true => exact ⟨F1, ρ1, ok1, h1⟩
    | false => exact ⟨F1, ρ1, ok1, h1⟩⟩
def mWhile (c : Rho → Res Bool) (f : Rho → SR) : Nat → Rho → SR
  | 0, _ => .bad
  | n + 1, ρ => (c ρ).toS fun b ρ1 => if b then (match f ρ1 with
      | .nx ρ2 => mWhile c f n ρ2
      | .ct ρ2 => mWhile c f n ρ2
      | .bk ρ2 => .nx ρ2
      | r => r) else .nx ρ1
theorem m_while (n : Nat) {c : Expr} {as : List Stmt} {ft : Rho → Res Bool} (hp : PassesOwn (model X.prog X.w) X.A X.env X.xe) (hc : PT X c (tT g W ft)) (ha : PSs X as (tS g W f)) : PS X (.While c as [] pos) (tS g W (mWhile ft f n)) :=
  ps_mono (ps_while hp hc ha) fun D σ H ⟨F, ρ, ok, h⟩ => by
    refine ⟨fun m σ H => ∃ F ρ, Ok g F H σ ρ ∧ PostS g W F (mWhile ft f m ρ) D, ⟨n, F, ρ, ok, h⟩, ?_⟩
    rintro m σ H ⟨F, ρ, ok, h⟩
    cases m with
    | zero => exact h.elim
    | succ m =>
      refine ⟨F, ρ, ok, Post.toS ok h fun b ρ1 b' F1 H1 st ok1 r h1 => ?_⟩
      have e : b' = b := r
      subst e
      cases b' with
      | false => exact h1 σ F1 H1 (Same.refl _) ok1
      | true =>
        rw [if_pos rfl] at h1 ⊢
        refine ⟨fun σ' H' => ∃ F ρ, Ok g F H' σ' ρ ∧ PostS g W F (mWhile ft f m ρ) D, fun σ' H' q => ⟨m, Nat.lt_succ_self m, q⟩, F1, ρ1, ok1, ?_⟩
        cases q : f ρ1 with
        | nx ρ2 => rw [q] at h1; exact fun σ' F' H' ff ok' => ⟨F', ρ2, ok', PostS.shift ff h1⟩
        | ct ρ2 => rw [q] at h1; exact fun σ' F' H' ff ok' => ⟨F', ρ2, ok', PostS.shift ff h1⟩
        | bk ρ2 => rw [q] at h1; exact h1
        | rt d ρ2 => rw [q] at h1; exact h1
        | rf d ρ2 => rw [q] at h1; exact h1
        | ex n ρ2 => rw [q] at h1; exact h1
        | bad => rw [q] at h1; exact h1
def forL (t : Tgt) (f : Rho → SR) : List D → Rho → SR
  | [], ρ => .nx ρ
  | d :: ds, ρ => match t.put d ρ with
    | none => .bad
    | some ρ1 => match f ρ1 with
      | .nx ρ2 => forL t f ds ρ2
      | .ct ρ2 => forL t f ds ρ2
      | .bk ρ2 => .nx ρ2
      | r => r
def mFor (it : Rho → Res (List D)) (t : Tgt) (f : Rho → SR) : Rho → SR := fun ρ => (it ρ).toS fun ds ρ1 => forL t f ds ρ1
theorem m_for {tg iter : Expr} {as : List Stmt} {t : Tgt} {it : Rho → Res (List D)} (hp : PassesOwn (model X.prog X.w) X.A X.env X.xe) (hi : PI X tg iter (tI g W it)) (hg : PG X tg (tG g t)) (ha : PSs X as (tS g W f)) (hc : X.calm = true := by rfl)
    (hs : ∀ x, foldedSetIterable iter X.env x = pure x := by intro _; rfl) : PS X (.For tg iter as [] pos) (tS g W (mFor it t f)) :=
  ps_mono (ps_for hp hc hi hg ha hs) fun D σ H ⟨F, ρ, ok, h⟩ => ⟨F, ρ, ok, Post.toS ok h fun ds ρ1 J F1 H1 st ok1 sr h1 => by
    refine ⟨fun i m σ H => m = ds.length - i ∧ i ≤ ds.length ∧ ∃ F ρ, Ok g F H σ ρ ∧ Same F1 F ∧ PostS g W F (forL t f (ds.drop i) ρ) D, ⟨ds.length, by omega, Nat.zero_le _, F1, ρ1, ok1, Same.refl _, h1⟩, ?_⟩
    rintro i m σ2 H2 ⟨rfl, hi, F2, ρ2, ok2, ff2, hpost⟩
    by_cases hlt : i < ds.length
    · refine .inr ⟨sr.goes i H2 hlt (ff2.trans ok2.sub), ?_⟩
      have hdrop : ds.drop i = ds[i] :: ds.drop (i + 1) := List.drop_eq_getElem_cons hlt
      rw [hdrop] at hpost
      unfold forL at hpost
      cases e : t.put ds[i] ρ2 with
      | none => rw [e] at hpost; exact hpost.elim
      | some ρ3 =>
        rw [e] at hpost
        dsimp only at hpost
        refine ⟨fun σ3 H3 => i + 1 ≤ ds.length ∧ ∃ F ρ, Ok g F H3 σ3 ρ ∧ Same F1 F ∧ PostS g W F (forL t f (ds.drop (i + 1)) ρ) D, fun σ3 H3 hN => ⟨ds.length - (i + 1), by omega, rfl, hN⟩, fun x H' hy => ?_⟩
        obtain ⟨d, hd1, hd2⟩ := sr.yld i H2 x H' hlt (ff2.trans ok2.sub) hy
        have ed : d = ds[i] := by rw [List.getElem?_eq_getElem hlt] at hd1; exact (Option.some.inj hd1).symm
        subst ed
        have item : ∃ F3, Ok g F3 H' σ2 ρ2 ∧ Same F2 F3 ∧ Dn g.K F3 x ds[i] := by
          rcases hd2 with ⟨q1, q2⟩ | ⟨T, us, es, q1, q2, q3, q4, q5⟩ | ⟨T, us, es, q1, q2, q3, q4, q5⟩
          · subst q1
            exact ⟨F2, ok2, Same.refl _, dn_same ff2 q2⟩
          · subst q1 q3
            rw [q4]
            have sf : Same F2 (upd F2 T (.tup us)) := same_new (ok2.nf q2)
            exact ⟨upd F2 T (.tup us), ok2.newF q2, sf, .tup upd_same (dna_same (ff2.trans sf) q5)⟩
          · subst q1 q3
            rw [q4]
            obtain ⟨F3, k1, k2, k3⟩ := ok2.tupF q2
            exact ⟨F3, k1, k2.ff, .tup k3 (dna_same (ff2.trans k2.ff) q5)⟩
        obtain ⟨F3, ok3, ff3, hx3⟩ := item
        refine ⟨F3, ρ2, ds[i], ρ3, ok3, hx3, e, fun σ3 ok4 _ => ⟨F3, ρ3, ok4, ?_⟩⟩
        have hpost' := PostS.shift ff3 hpost
        cases q : f ρ3 with
        | nx ρ4 => rw [q] at hpost'; exact fun σ' F' H' ff ok' => ⟨hlt, F', ρ4, ok', (ff2.trans ff3).trans ff, PostS.shift ff hpost'⟩
        | ct ρ4 => rw [q] at hpost'; exact fun σ' F' H' ff ok' => ⟨hlt, F', ρ4, ok', (ff2.trans ff3).trans ff, PostS.shift ff hpost'⟩
        | bk ρ4 => rw [q] at hpost'; exact hpost'
        | rt d ρ4 => rw [q] at hpost'; exact hpost'
        | rf d ρ4 => rw [q] at hpost'; exact hpost'
        | ex n ρ4 => rw [q] at hpost'; exact hpost'
        | bad => rw [q] at hpost'; exact hpost'
    · have e : i = ds.length := by omega
      subst e
      refine .inl ⟨sr.stops H2 (ff2.trans ok2.sub), ?_⟩
      rw [List.drop_length] at hpost
      exact hpost σ2 F2 H2 (Same.refl _) ok2⟩
def mRaise (n : Str) : Rho → SR := fun ρ => .ex n ρ
theorem m_raise {n msg : Str} {C : Addr} {bmB : List Value} {B newId initId : String} {j : Nat} {p p2 pos' : Pos} (tk : Takes X W) (Fx : ExcBaseFacts B newId initId bmB) (q : PySem.W.excIn X.K C bmB newId = true) (gC : X.mg n = some (.ref C)) (kC : PySem.W.keepIn X.K (.ref C) = true)
    (r : Raises X (.ref C)) (hmg : X.mg = g.mg := by rfl) (hg : Gl X n := by rfl) (hc : X.calm = true := by rfl) (hdb : (n == ("__debug__" : Str)) = false := by decide) :
    PS X (.Raise (some (.Call (.Name n p) [.Constant (.str msg) j p2] [] pos')) none pos) (tS g W (mRaise n)) :=
  ps_mono (ps_raise hc tk (pmk_own Fx q gC kC r hg hdb)) fun D σ H ⟨F, ρ, ok, h⟩ => h σ F H _ (by rw [← hmg]; exact gC) (Same.refl _) ok
end
end Mi
set_option Elab.async false
set_option linter.all false
set_option maxRecDepth 100000
namespace Mi
open PySem PySem.Spec L2

inductive VsM (g : Gh) (H F' H' : Hp) : List RM → List V → List D → List Addr → Prop
  | nil : VsM g H F' H' [] [] [] []
  | pure {ms vs ds as} {v : V} {d : D} : Dn g.K F' v d → VsM g H F' H' ms vs ds as → VsM g H F' H' (.pure :: ms) (v :: vs) (d :: ds) as
  | fresh {ms vs ds as} {a : Addr} {d : D} : H a = none → OwnD g.K F' H' a d → VsM g H F' H' ms vs ds as → VsM g H F' H' (.fresh :: ms) (.ref a :: vs) (d :: ds) (a :: as)
theorem VsM.mono {g : Gh} {H H1 F' H' : Hp} (h : ∀ a : Addr, H1 a = none → H a = none) : ∀ {ms vs ds as}, VsM g H1 F' H' ms vs ds as → VsM g H F' H' ms vs ds as
  | _, _, _, _, .nil => .nil
  | _, _, _, _, .pure h1 t => .pure h1 (t.mono h)
  | _, _, _, _, .fresh h1 h2 t => .fresh (h _ h1) h2 (t.mono h)
theorem VsM.new {g : Gh} {H F' H' : Hp} : ∀ {ms vs ds as}, VsM g H F' H' ms vs ds as → ∀ a ∈ as, H a = none ∧ F' a = none ∧ ∃ o, H' a = some o
  | _, _, _, _, .nil, a, h => by cases h
  | _, _, _, _, .pure _ t, a, h => t.new a h
  | _, _, _, _, .fresh h1 h2 t, a, h => by
    rcases List.mem_cons.mp h with rfl | h
    · exact ⟨h1, h2.nf, h2.has⟩
    · exact t.new a h
def rVs (g : Gh) (σ : St) (ms : List RM) : RT (List D) (List V) := fun H ρ' F' H' vs ds => ∃ as, VsM g H F' H' ms vs ds as ∧ as.Nodup ∧ ∀ a ∈ as, ¬ Owned σ ρ' a
instance sm_Vs {g : Gh} {σ : St} {ms : List RM} : SM (rVs g σ ms) := ⟨fun H H1 ρ' F' H' vs ds h ⟨as, h1, h2, h3⟩ => ⟨as, h1.mono h, h2, h3⟩⟩
def tAm (g : Gh) (W : WX) (ms : List RM) (f : Rho → Res (List D)) : TA := fun σ H Q => ∃ F ρ, Ok g F H σ ρ ∧ Post g W σ (rVs g σ ms) F H ρ (f ρ) Q
section
variable {X : Cx} {g : Gh} {W : WX} {a b c : Expr} {pos : Pos} {f k l : Rho → Res D} {m : RM} {ms : List RM} {ks : Rho → Res (List D)} {es : List Expr}
theorem m_nilM : PA X [] (tAm g W [] mNil) := pa_mono pa_nil fun σ H Q ⟨F, ρ, ok, h⟩ => h.done ok ⟨[], .nil, List.nodup_nil, fun a z => nomatch z⟩
theorem m_consM (ha : PE X a (tE m g W f)) (hr : PA X es (tAm g W ms ks)) (hs : starEach (a :: es) X.env = (false, eval a X.env) :: starEach es X.env := by rfl) : PA X (a :: es) (tAm g W (m :: ms) (mCons f ks)) :=
  pa_mono (pa_cons ha hr hs) fun σ H Q ⟨F, ρ, ok, h⟩ => by
    refine ⟨F, ρ, ok, ?_⟩
    unfold mCons at h
    cases q0 : f ρ with
    | bad => rw [q0] at h; exact h.elim
    | ex n ρ1 => rw [q0] at h; exact h
    | ok d ρ1 =>
      rw [q0, Res.bind_ok] at h
      intro x F1 H1 st ok1 hx
      refine ⟨F1, ρ1, ok1, ?_⟩
      cases q : ks ρ1 with
      | bad => rw [q] at h; exact h.elim
      | ex n ρ2 => rw [q] at h; exact fun F' H' cls hm ff => h F' H' cls hm (st.ff.trans ff)
      | ok ds ρ2 =>
        rw [q] at h
        intro xs F2 H2 st2 ok2 ⟨as, hv, hn, ho⟩
        cases m with
        | pure => exact h (x :: xs) F2 H2 (st.trans st2) ok2 ⟨as, .pure (dn_same st2.ff hx) (hv.mono fun _ => st.gone), hn, ho⟩
        | fresh =>
          obtain ⟨p, rfl, q1, q2, q3⟩ := hx
          obtain ⟨o, e⟩ := q2.has
          have nf : F2 p = none := Classical.byContradiction fun n => by
            rcases st2.fn p n with z | z | z
            · exact z q2.nf
            · exact q2.nw z
            · exact q3 z
          refine h (.ref p :: xs) F2 H2 (st.trans st2) ok2 ⟨p :: as, .fresh q1 (q2.mono st2.ff nf fun o e => st2.kp p o e q3) (hv.mono fun _ => st.gone), List.nodup_cons.mpr ⟨fun z => ?_, hn⟩, fun b hb => ?_⟩
          · have := (hv.new p z).1
            rw [e] at this; cases this
          · rcases List.mem_cons.mp hb with rfl | hb
            · exact fun z => q3 (st2.sh _ z)
            · exact ho b hb
def putAll : List Nat → List RM → List D → Rho → Rho
  | i :: is, m :: ms, d :: ds, ρ => putAll is ms ds (ρ.set i (slotM m d))
  | _, _, _, ρ => ρ
def setAllV : List Nat → List V → St → St
  | i :: is, v :: vs, σ => setAllV is vs (σ.set i (some v))
  | _, _, σ => σ
theorem Ok.puts {H0 F H : Hp} : ∀ {ms : List RM} {vs : List V} {ds : List D} {as : List Addr} {is : List Nat} {σ : St} {ρ : Rho}, VsM g H0 F H ms vs ds as → as.Nodup → (∀ i ∈ is, NoPin g i) → (∀ a ∈ as, ¬ Owned σ ρ a) → (∀ a ∈ as, g.H0 a = none) → Ok g F H σ ρ →
    Ok g F H (setAllV is vs σ) (putAll is ms ds ρ)
  | _, _, _, _, [], σ, ρ, h, _, _, _, _, ok => by cases h <;> exact ok
  | _, _, _, _, i :: is, σ, ρ, .nil, _, _, _, _, ok => ok
  | _, _, _, _, i :: is, σ, ρ, .pure h1 t, hn, hp, ho, h0, ok => by
    refine Ok.puts (is := is) t hn (fun j hj => hp j (List.mem_cons_of_mem _ hj)) (fun a ha z => ho a ha ?_) h0 (ok.setFz h1 (hp i List.mem_cons_self))
    obtain ⟨j, d, e1, e2⟩ := z
    rcases getElem?_set_eq e1 with ⟨_, q⟩ | ⟨n, q⟩
    · cases q
    · rw [List.getElem?_set_ne (fun e => n e.symm)] at e2
      exact ⟨j, d, q, e2⟩
  | _, _, _, _, i :: is, σ, ρ, .fresh (as := as) (a := a) h1 h2 t, hn, hp, ho, h0, ok => by
    have hn' := List.nodup_cons.mp hn
    refine Ok.puts (is := is) t hn'.2 (fun j hj => hp j (List.mem_cons_of_mem _ hj)) (fun b hb z => ho b (List.mem_cons_of_mem _ hb) ?_) (fun b hb => h0 b (List.mem_cons_of_mem _ hb))
      (ok.setOw h2 (ho a List.mem_cons_self) (h0 a List.mem_cons_self) (hp i List.mem_cons_self))
    obtain ⟨j, d, e1, e2⟩ := z
    rcases getElem?_set_eq e1 with ⟨e, q⟩ | ⟨n, q⟩
    · subst e
      rcases getElem?_set_eq e2 with ⟨_, q2⟩ | ⟨n2, _⟩
      · cases q2
        exact absurd hb hn'.1
      · exact absurd rfl n2
    · rw [List.getElem?_set_ne (fun e => n e.symm)] at e2
      exact ⟨j, d, q, e2⟩
theorem VsM.tup {H0 F H : Hp} {p : Addr} {o : HO} (hp : H p = none) : ∀ {ms vs ds as}, VsM g H0 F H ms vs ds as → VsM g H0 F (upd H p o) ms vs ds as
  | _, _, _, _, .nil => .nil
  | _, _, _, _, .pure h t => .pure h (t.tup hp)
  | _, _, _, _, .fresh h1 h2 t => .fresh h1 (h2.mono (Same.refl _) h2.nf fun u e => same_new hp _ u e) (t.tup hp)
theorem VsM.lens {H0 F H : Hp} : ∀ {ms vs ds as}, VsM g H0 F H ms vs ds as → vs.length = ms.length
  | _, _, _, _, .nil => rfl
  | _, _, _, _, .pure _ t => by rw [List.length_cons, List.length_cons, t.lens]
  | _, _, _, _, .fresh _ _ t => by rw [List.length_cons, List.length_cons, t.lens]
def mPar (is : List Nat) (ms : List RM) (ks : Rho → Res (List D)) : Rho → SR := fun ρ => (ks ρ).toS fun ds ρ1 => .nx (putAll is ms ds ρ1)
theorem parM {is : List Nat} {E : Ends} {σ : St} {F H : Hp} {ρ : Rho} {C : List V → Hp → Prop} (ok : Ok g F H σ ρ) (hp : ∀ i ∈ is, NoPin g i) (h : PostS g W F (mPar is ms ks ρ) E)
    (hC : ∀ vs H1, vs.length = ms.length → E.nx (setAllV is vs σ) H1 → (∀ p o, H1 p = none → E.nx (setAllV is vs σ) (upd H1 p o)) → C vs H1) : Post g W σ (rVs g σ ms) F H ρ (ks ρ) C := by
  refine Post.toS ok h fun ds ρ1 vs F1 H1 st ok1 ⟨as, hv, hn, ho⟩ h1 => ?_
  have h0 : ∀ a ∈ as, g.H0 a = none := fun a ha => ok.nh0 (hv.new a ha).1
  exact hC vs H1 hv.lens (h1 _ F1 H1 (Same.refl _) (ok1.puts hv hn hp ho h0)) fun p o q => h1 _ F1 _ (Same.refl _) ((ok1.new q).puts (hv.tup q) hn hp ho h0)
/-- two, three plain local names -/
theorem m_par2 (i j : Nat) {m1 m2 : RM} {x y : Str} {px py pt : Pos} {kt k2 : Nat} {pt2 : Pos} (hpi : NoPin g i) (hpj : NoPin g j) (hN : X.N.Nodup) (ha : PA X [a, b] (tAm g W [m1, m2] ks)) (hi : X.N[i]? = some x := by rfl) (hj : X.N[j]? = some y := by rfl) (hij : i ≠ j := by decide)
    (hx : X.env.scope.names.lookup x = some .local := by rfl) (hy : X.env.scope.names.lookup y = some .local := by rfl) (hw : swappedStores [.Tuple [.Name x px, .Name y py] kt pt] (.Tuple [a, b] k2 pt2) X.env = pure (some [x, y]) := by rfl)
    (hs : swapsWithSole [.Tuple [.Name x px, .Name y py] kt pt] (.Tuple [a, b] k2 pt2) pos.line X.env = pure false := by rfl) (hc : X.calm = true := by rfl) :
    PS X (.Assign [.Tuple [.Name x px, .Name y py] kt pt] (.Tuple [a, b] k2 pt2) pos) (tS g W (mPar [i, j] [m1, m2] ks)) :=
  ps_mono (ps_par hc hN hi hj hij hx hy ha hw hs) fun E σ H ⟨F, ρ, ok, h⟩ => ⟨F, ρ, ok, parM ok (by simp; exact ⟨hpi, hpj⟩) h fun vs H1 hl q _ => by
    match vs, hl with
    | [v, w], _ => exact ⟨v, w, rfl, q⟩⟩
theorem m_par3 (i j l' : Nat) {m1 m2 m3 : RM} {x y z : Str} {px py pz pt : Pos} {kt k2 : Nat} {pt2 : Pos} (hpi : NoPin g i) (hpj : NoPin g j) (hpl : NoPin g l') (hN : X.N.Nodup) (ha : PA X [a, b, c] (tAm g W [m1, m2, m3] ks)) (hi : X.N[i]? = some x := by rfl) (hj : X.N[j]? = some y := by rfl) (hl : X.N[l']? = some z := by rfl)
    (hij : i ≠ j := by decide) (hil : i ≠ l' := by decide) (hjl : j ≠ l' := by decide) (hx : X.env.scope.names.lookup x = some .local := by rfl) (hy : X.env.scope.names.lookup y = some .local := by rfl) (hz : X.env.scope.names.lookup z = some .local := by rfl)
    (hw : swappedStores [.Tuple [.Name x px, .Name y py, .Name z pz] kt pt] (.Tuple [a, b, c] k2 pt2) X.env = pure (some [x, y, z]) := by rfl)
    (hs : swapsWithSole [.Tuple [.Name x px, .Name y py, .Name z pz] kt pt] (.Tuple [a, b, c] k2 pt2) pos.line X.env = pure false := by rfl) (hc : X.calm = true := by rfl) :
    PS X (.Assign [.Tuple [.Name x px, .Name y py, .Name z pz] kt pt] (.Tuple [a, b, c] k2 pt2) pos) (tS g W (mPar [i, j, l'] [m1, m2, m3] ks)) :=
  ps_mono (ps_par3 hc hN hi hj hl hij hil hjl hx hy hz ha hw hs) fun E σ H ⟨F, ρ, ok, h⟩ => ⟨F, ρ, ok, parM ok (by simp; exact ⟨hpi, hpj, hpl⟩) h fun vs H1 hl q _ => by
    match vs, hl with
    | [v, w, u], _ => exact ⟨v, w, u, rfl, q⟩⟩
/-- .. where some names are cells: by the tuple -/
theorem m_parT {is : List Nat} {tgs : List Expr} {kt k2 : Nat} {pt pt2 : Pos} {g1 : TGs} (hp : ∀ i ∈ is, NoPin g i) (ha : PA X es (tAm g W ms ks)) (hg : PGs X tgs g1) (hg1 : ∀ vs σ H Q, vs.length = is.length → Q (setAllV is vs σ) H → g1 vs σ H Q) (hl : ms.length = is.length := by rfl) (hz : ms.length ≤ 1000 := by decide)
    (hn : (assignEach tgs X.env).length = is.length := by rfl) (hst : (assignEach tgs X.env).findIdx? (·.1) = none := by rfl) (hc : X.calm = true := by rfl)
    (hs : swapsWithSole [.Tuple tgs kt pt] (.Tuple es k2 pt2) pos.line X.env = pure false := by rfl) (hw : swappedStores [.Tuple tgs kt pt] (.Tuple es k2 pt2) X.env = pure none := by rfl)
    (h1 : (assignEach [.Tuple tgs kt pt] X.env).map (·.2) = [assign (.Tuple tgs kt pt) X.env] := by rfl) :
    PS X (.Assign [.Tuple tgs kt pt] (.Tuple es k2 pt2) pos) (tS g W (mPar is ms ks)) :=
  ps_mono (ps_asg (pe_tup ha) (pg_tup hc hg hn hst) hs hw h1) fun E σ H ⟨F, ρ, ok, h⟩ => ⟨F, ρ, ok, parM ok hp h fun vs H1 hlen _ q => by
    refine ⟨small_line (by omega), fun p hp => ⟨p, vs, rfl, .of upd_same, by omega, hg1 _ _ _ _ (by omega) (q p _ hp)⟩⟩⟩
theorem g_nil : PGs X [] gNil := pgs_nil
theorem gk_nil : ∀ vs σ H (Q : St → Hp → Prop), vs.length = ([] : List Nat).length → Q (setAllV [] vs σ) H → gNil vs σ H Q := fun vs σ H Q h q => by
  cases vs with
  | nil => exact ⟨rfl, q⟩
  | cons _ _ => cases h
theorem gk_cons {i : Nat} {is : List Nat} {u : TGs} (h : ∀ vs σ H (Q : St → Hp → Prop), vs.length = is.length → Q (setAllV is vs σ) H → u vs σ H Q) : ∀ vs σ H (Q : St → Hp → Prop), vs.length = (i :: is).length → Q (setAllV (i :: is) vs σ) H → gCons (gName i) u vs σ H Q := fun vs σ H Q hl q => by
  cases vs with
  | nil => cases hl
  | cons v r => exact ⟨v, r, rfl, h r _ H Q (Nat.succ.inj hl) q⟩
end
end Mi
set_option Elab.async false
set_option linter.all false
set_option maxRecDepth 100000
namespace Mi
open PySem PySem.Spec L2

inductive FR where
  | ok (d : D) (os : List D)
  | ex (n : Str) (os : List D)
  | bad
/-- own arguments: addresses, contents -/
inductive OwnAll (K : PySem.W.Frag) (F H : Hp) : List Addr → List D → Prop
  | nil : OwnAll K F H [] []
  | cons {a d as ds} : OwnD K F H a d → OwnAll K F H as ds → OwnAll K F H (a :: as) (d :: ds)
theorem OwnAll.len {K : PySem.W.Frag} {F H : Hp} : ∀ {as ds}, OwnAll K F H as ds → as.length = ds.length
  | _, _, .nil => rfl
  | _, _, .cons _ t => by rw [List.length_cons, List.length_cons, t.len]
theorem OwnAll.get {K : PySem.W.Frag} {F H : Hp} : ∀ {as ds} {k : Nat} {a : Addr}, OwnAll K F H as ds → as[k]? = some a → ∃ d, ds[k]? = some d ∧ OwnD K F H a d
  | _, _, _, _, .nil, e => by simp at e
  | _, _, 0, _, .cons h _, e => by
    cases (show some _ = some _ from e)
    exact ⟨_, rfl, h⟩
  | _, _, k + 1, _, .cons _ t, e => t.get (k := k) (show _ = _ from e)
/-- a call's step -/
structure CStep (as : List Addr) (F H F' H' : Hp) : Prop where
  ff : Same F F'
  kp : ∀ a o, H a = some o → a ∉ as → H' a = some o
  fn : ∀ a, F' a ≠ none → F a ≠ none ∨ Nw H a
  th : ∀ a, H a ≠ none → H' a ≠ none
  sub : Same F' H'
def resF (K : PySem.W.Frag) (m : RM) (H F' H' : Hp) (v : V) (d : D) : Prop := match m with
  | .pure => Dn K F' v d
  | .fresh => ∃ a, v = .ref a ∧ H a = none ∧ OwnD K F' H' a d
def PostF (K : PySem.W.Frag) (mg : Str → Option Value) (m : RM) (F H : Hp) (as : List Addr) (r : FR) (Q : VK) (E : XK) : Prop := match r with
  | .ok d os => ∀ v F' H', CStep as F H F' H' → OwnAll K F' H' as os → resF K m H F' H' v d → Q v H'
  | .ex n os => ∀ cls F' H', mg n = some cls → CStep as F H F' H' → OwnAll K F' H' as os → E cls none H'
  | .bad => False
/-- a def's promise by its mirror: np parameters, the first no of them own -/
def spM (K : PySem.W.Frag) (mg : Str → Option Value) (np no : Nat) (m : RM) (Fm : List D → List D → FR) : Sp := fun vs H Q E => ∃ F as os ws es, vs = as.map V.ref ++ ws ∧ as.length = no ∧ as.length + ws.length = np ∧ as.Nodup ∧ OwnAll K F H as os ∧ DnAll K F ws es ∧ Same F H ∧
  PostF K mg m F H as (Fm os es) Q E

def startR (n : Nat) (os es : List D) : Rho := os.map .ow ++ (es.map .fz ++ List.replicate (n - (os.length + es.length)) .un)
def outD : Slot → D
  | .ow d => d
  | _ => .none
def outs (no : Nat) (ρ : Rho) : List D := (ρ.take no).map outD
def runF (n no : Nat) (m : RM) (body : Rho → SR) (os es : List D) : FR := match body (startR n os es), m with
  | .nx ρ, .pure => .ok .none (outs no ρ)
  | .rt d ρ, .pure => .ok d (outs no ρ)
  | .rf d ρ, .fresh => .ok d (outs no ρ)
  | .ex n ρ, _ => .ex n (outs no ρ)
  | _, _ => .bad
def pinsOf : Nat → List Addr → List (Nat × Addr)
  | _, [] => []
  | k, a :: r => (k, a) :: pinsOf (k + 1) r
theorem mem_pinsOf {i : Nat} {a : Addr} : ∀ {k : Nat} {as : List Addr}, (i, a) ∈ pinsOf k as ↔ k ≤ i ∧ as[i - k]? = some a
  | k, [] => by simp [pinsOf]
  | k, b :: r => by
    unfold pinsOf
    rw [List.mem_cons, mem_pinsOf (k := k + 1) (as := r)]
    constructor
    · rintro (h | ⟨h1, h2⟩)
      · cases h
        exact ⟨Nat.le_refl _, by rw [Nat.sub_self]; rfl⟩
      · refine ⟨by omega, ?_⟩
        rw [show i - k = (i - (k + 1)) + 1 by omega]
        exact h2
    · rintro ⟨h1, h2⟩
      by_cases e : i = k
      · subst e
        rw [Nat.sub_self] at h2
        cases (show some _ = some _ from h2)
        exact .inl rfl
      · right
        refine ⟨by omega, ?_⟩
        rw [show i - k = (i - (k + 1)) + 1 by omega] at h2
        exact h2
section
variable {K : PySem.W.Frag} {mg : Str → Option Value} {F H : Hp} {as : List Addr} {os es : List D} {ws : List V} {n : Nat} {m : RM}
theorem ok_start (hn : as.length + ws.length ≤ n) (hnd : as.Nodup) (ho : OwnAll K F H as os) (he : DnAll K F ws es) (hs : Same F H) :
    Ok ⟨K, mg, F, H, pinsOf 0 as⟩ F H ((as.map V.ref ++ ws).map some ++ List.replicate (n - (as.map V.ref ++ ws).length) none) (startR n os es) := by
  have l1 := ho.len
  have l2 := dna_len he
  -- the slots, one by one
  have gow : ∀ {i : Nat} {d : D}, (startR n os es)[i]? = some (.ow d) → i < as.length ∧ os[i]? = some d := fun {i d} h => by
    unfold startR at h
    by_cases hi : i < os.length
    · rw [List.getElem?_append_left (by rw [List.length_map]; exact hi), List.getElem?_map] at h
      cases q : os[i]? with
      | none => rw [q] at h; cases h
      | some e => rw [q] at h; cases h; exact ⟨by omega, rfl⟩
    · rw [List.getElem?_append_right (by rw [List.length_map]; omega)] at h
      rw [List.length_map] at h
      by_cases hj : i - os.length < es.length
      · rw [List.getElem?_append_left (by rw [List.length_map]; exact hj), List.getElem?_map] at h
        cases q : es[i - os.length]? with
        | none => rw [q] at h; cases h
        | some e => rw [q] at h; cases h
      · rw [List.getElem?_append_right (by rw [List.length_map]; omega), List.getElem?_replicate] at h
        split at h <;> cases h
  have gfz : ∀ {i : Nat} {d : D}, (startR n os es)[i]? = some (.fz d) → as.length ≤ i ∧ es[i - as.length]? = some d := fun {i d} h => by
    unfold startR at h
    by_cases hi : i < os.length
    · rw [List.getElem?_append_left (by rw [List.length_map]; exact hi), List.getElem?_map] at h
      cases q : os[i]? with
      | none => rw [q] at h; cases h
      | some e => rw [q] at h; cases h
    · rw [List.getElem?_append_right (by rw [List.length_map]; omega)] at h
      rw [List.length_map] at h
      by_cases hj : i - os.length < es.length
      · rw [List.getElem?_append_left (by rw [List.length_map]; exact hj), List.getElem?_map] at h
        cases q : es[i - os.length]? with
        | none => rw [q] at h; cases h
        | some e => rw [q] at h; cases h; exact ⟨by omega, by rw [l1]; exact q⟩
      · rw [List.getElem?_append_right (by rw [List.length_map]; omega), List.getElem?_replicate] at h
        split at h <;> cases h
  have sas : ∀ {i : Nat} {a : Addr}, as[i]? = some a → ((as.map V.ref ++ ws).map some ++ List.replicate (n - (as.map V.ref ++ ws).length) none)[i]? = some (some (.ref a)) := fun {i a} h => by
    have hi : i < as.length := (List.getElem?_eq_some_iff.mp h).1
    rw [List.getElem?_append_left (by rw [List.length_map, List.length_append, List.length_map]; omega), List.getElem?_map, List.getElem?_append_left (by rw [List.length_map]; exact hi), List.getElem?_map, h]
    rfl
  have iof : ∀ {i : Nat}, i < as.length → ∃ a, as[i]? = some a := fun {i} h => ⟨as[i], List.getElem?_eq_getElem h⟩
  refine ⟨hs, Same.refl _, fun a h => .inl h, fun a o h _ => h, fun a h => h, ?_, fun i d h => ?_, fun i d h => ?_, fun i j a d e h1 h2 h3 h4 => ?_, fun i a d h1 h2 => ?_, fun i a h => ?_⟩
  · unfold startR
    simp only [List.length_append, List.length_map, List.length_replicate]
    omega
  · obtain ⟨h1, h2⟩ := gfz h
    obtain ⟨v, q1, q2⟩ := dna_get he h2
    refine ⟨v, ?_, q2⟩
    have hi : i - as.length < ws.length := (List.getElem?_eq_some_iff.mp q1).1
    rw [List.getElem?_append_left (by rw [List.length_map, List.length_append, List.length_map]; omega), List.getElem?_map, List.getElem?_append_right (by rw [List.length_map]; exact h1), List.length_map, q1]
    rfl
  · obtain ⟨h1, h2⟩ := gow h
    obtain ⟨a, ha⟩ := iof h1
    obtain ⟨d', q1, q2⟩ := ho.get ha
    rw [h2] at q1
    cases q1
    exact ⟨a, sas ha, q2⟩
  · obtain ⟨i1, _⟩ := gow h1
    obtain ⟨j1, _⟩ := gow h2
    obtain ⟨a1, ha1⟩ := iof i1
    obtain ⟨a2, ha2⟩ := iof j1
    rw [sas ha1] at h3
    rw [sas ha2] at h4
    cases h3
    cases h4
    exact nd_ix hnd ha1 ha2
  · obtain ⟨i1, _⟩ := gow h1
    obtain ⟨a1, ha1⟩ := iof i1
    rw [sas ha1] at h2
    cases h2
    exact .inr (mem_pinsOf.mpr ⟨Nat.zero_le _, ha1⟩)
  · have q := (mem_pinsOf.mp h).2
    rw [Nat.sub_zero] at q
    refine ⟨sas q, ?_⟩
    obtain ⟨d, q1, _⟩ := ho.get q
    refine ⟨d, ?_⟩
    have hi : i < os.length := (List.getElem?_eq_some_iff.mp q1).1
    show (startR n os es)[i]? = _
    unfold startR
    rw [List.getElem?_append_left (by rw [List.length_map]; exact hi), List.getElem?_map, q1]
    rfl
/-- what the end of a body tells a caller -/
theorem ok_end {σ' : St} {ρ' : Rho} {F' H' : Hp} (hs : Same F H) (ok : Ok ⟨K, mg, F, H, pinsOf 0 as⟩ F' H' σ' ρ') : CStep as F H F' H' ∧ OwnAll K F' H' as (outs as.length ρ') := by
  refine ⟨⟨ok.f0, fun a o h n => ok.keep a o h fun i z => n ?_, ok.fnew, ok.there, ok.sub⟩, ?_⟩
  · exact List.mem_of_getElem? (mem_pinsOf.mp z).2
  · have each : ∀ (i : Nat) (a : Addr), as[i]? = some a → ∃ d, ρ'[i]? = some (.ow d) ∧ OwnD K F' H' a d := fun i a h => by
      obtain ⟨h1, d, h2⟩ := ok.pin i a (mem_pinsOf.mpr ⟨Nat.zero_le _, h⟩)
      obtain ⟨a', h3, h4⟩ := ok.ow i d h2
      rw [h1] at h3
      cases h3
      exact ⟨d, h2, h4⟩
    have gen : ∀ (bs : List Addr) (r : Rho), (∀ (i : Nat) (a : Addr), bs[i]? = some a → ∃ d, r[i]? = some (Slot.ow d) ∧ OwnD K F' H' a d) → OwnAll K F' H' bs (outs bs.length r) := by
      intro bs
      induction bs with
      | nil => intro r _; exact .nil
      | cons b bs ih =>
        intro r hr
        obtain ⟨d, h1, h2⟩ := hr 0 b rfl
        cases r with
        | nil => cases h1
        | cons s r =>
          cases (show some _ = some _ from h1)
          exact .cons h2 (ih r fun i a h => hr (i + 1) a h)
    exact gen as ρ' each
end

/-- THE RULE for a def by its mirror -/
theorem def_ok {P : Program} {w : World} {K : PySem.W.Frag} {mg : Str → Option Value} {base : Heap} {x qual : Str} {st : Stmt} {f : Addr} {fd : FuncData} {N ps : List Str} {k np no : Nat} {m : RM} {body : Rho → SR} (Fn : Fun K x qual st f fd) (S : FnScope N ps (defScope st)) (hnp : ps.length = np) (hN : np ≤ N.length)
    (hb : ∀ (cdv : Value) (A : Around) (outer : List Env) (s : Shared) (H : Hp) (E : XK) (F : Hp) (as : List Addr), as.length = no → Room k (A.deeper (PyProof.Rows.envOfC qual (defScope st) s.heap.objs.size f cdv)) →
      PSs (cxOf (L2.CX P w) P w K mg base N qual (defScope st) f cdv A outer s H E) (defBody st) (tS ⟨K, mg, F, H, pinsOf 0 as⟩ (fun cls d _ H' => E cls d H') body)) :
    FnOk P w K mg base (L2.CX P w) (k + 1) f fd ps (spM K mg np no m (runF N.length no m body)) := by
  refine Fn.okX S (fun vs H Q E h => ?_) (fun cdv A outer s H vs Q E hr h => ?_)
  · obtain ⟨F, as, os, ws, es, rfl, h1, h2, _⟩ := h
    rw [List.length_append, List.length_map, h2, hnp]
  · obtain ⟨F, as, os, ws, es, rfl, h1, h2, hnd, ho, he, hs, hp⟩ := h
    refine ⟨_, hb cdv A outer s H E F as h1 hr, F, startR N.length os es, ok_start (by omega) hnd ho he hs, ?_⟩
    unfold runF at hp
    have hout : ∀ {σ' : St} {ρ' : Rho} {F' H' : Hp}, Ok ⟨K, mg, F, H, pinsOf 0 as⟩ F' H' σ' ρ' → CStep as F H F' H' ∧ OwnAll K F' H' as (outs no ρ') := fun ok => by
      have := ok_end hs ok
      rw [h1] at this
      exact this
    cases q : body (startR N.length os es) with
    | bad => rw [q] at hp; cases m <;> exact hp.elim
    | bk ρ => rw [q] at hp; cases m <;> exact hp.elim
    | ct ρ => rw [q] at hp; cases m <;> exact hp.elim
    | nx ρ =>
      rw [q] at hp
      cases m with
      | fresh => exact hp.elim
      | pure => exact fun σ' F' H' _ ok => hp .non F' H' (hout ok).1 (hout ok).2 .non
    | rt d ρ =>
      rw [q] at hp
      cases m with
      | fresh => exact hp.elim
      | pure => exact fun v σ' F' H' _ ok hd => hp v F' H' (hout ok).1 (hout ok).2 hd
    | rf d ρ =>
      rw [q] at hp
      cases m with
      | pure => exact hp.elim
      | fresh => exact fun a σ' F' H' _ ok hd _ h0 => hp (.ref a) F' H' (hout ok).1 (hout ok).2 ⟨a, rfl, h0, hd⟩
    | ex n ρ =>
      rw [q] at hp
      cases m with
      | pure => exact fun σ' F' H' cls hm _ ok => hp cls F' H' hm (hout ok).1 (hout ok).2
      | fresh => exact fun σ' F' H' cls hm _ ok => hp cls F' H' hm (hout ok).1 (hout ok).2

inductive Refs (σ : St) (ρ : Rho) : List Nat → List Addr → List D → Prop
  | nil : Refs σ ρ [] [] []
  | cons {i is a as d ds} : σ[i]? = some (some (.ref a)) → ρ[i]? = some (.ow d) → Refs σ ρ is as ds → Refs σ ρ (i :: is) (a :: as) (d :: ds)
def getOw : List Nat → Rho → Option (List D)
  | [], _ => some []
  | i :: is, ρ => match ρ[i]? with
    | some (.ow d) => (getOw is ρ).map (d :: ·)
    | _ => none
def setOwn : List Nat → List D → Rho → Rho
  | i :: is, d :: ds, ρ => setOwn is ds (ρ.set i (.ow d))
  | _, _, ρ => ρ
def mArgs (is : List Nat) (ks : Rho → Res (List D)) (Fm : List D → List D → FR) : Rho → Res D := fun ρ => match getOw is ρ with
  | none => .bad
  | some _ => (ks ρ).bind fun es ρ1 => match getOw is ρ1 with
    | none => .bad
    | some os => match Fm os es with
      | .ok d os' => .ok d (setOwn is os' ρ1)
      | .ex n os' => .ex n (setOwn is os' ρ1)
      | .bad => .bad
section
variable {g : Gh} {F H F' H' : Hp} {σ : St} {ρ : Rho} {is : List Nat} {as : List Addr} {os os' : List D}
theorem refs_of (ok : Ok g F H σ ρ) : ∀ {is : List Nat} {os : List D}, getOw is ρ = some os → ∃ as, Refs σ ρ is as os ∧ OwnAll g.K F H as os
  | [], os, h => by cases h; exact ⟨[], .nil, .nil⟩
  | i :: is, os, h => by
    unfold getOw at h
    split at h
    · rename_i d e
      cases q : getOw is ρ with
      | none => rw [q] at h; cases h
      | some ds =>
        rw [q] at h
        cases h
        obtain ⟨as, h1, h2⟩ := refs_of ok q
        obtain ⟨a, h3, h4⟩ := ok.ow i d e
        exact ⟨a :: as, .cons h3 e h1, .cons h4 h2⟩
    · cases h
theorem Refs.mem : ∀ {is : List Nat} {as : List Addr} {ds : List D} {a : Addr}, Refs σ ρ is as ds → a ∈ as → ∃ i d, i ∈ is ∧ σ[i]? = some (some (.ref a)) ∧ ρ[i]? = some (.ow d)
  | _, _, _, a, .cons h1 h2 t, h => by
    rcases List.mem_cons.mp h with rfl | h
    · exact ⟨_, _, List.mem_cons_self, h1, h2⟩
    · obtain ⟨i, d, q1, q2, q3⟩ := t.mem h
      exact ⟨i, d, List.mem_cons_of_mem _ q1, q2, q3⟩
theorem Refs.nodup (ok : Ok g F H σ ρ) : ∀ {is : List Nat} {as : List Addr} {ds : List D}, Refs σ ρ is as ds → is.Nodup → as.Nodup
  | _, _, _, .nil, _ => List.nodup_nil
  | _, _, _, .cons h1 h2 t, h => by
    obtain ⟨n1, n2⟩ := List.nodup_cons.mp h
    refine List.nodup_cons.mpr ⟨fun z => ?_, t.nodup ok n2⟩
    obtain ⟨j, d, q1, q2, q3⟩ := t.mem z
    have := ok.inj _ _ _ _ _ h2 q3 h1 q2
    subst this
    exact n1 q1
/-- same shape: behind arguments the own slots are as they were -/
theorem Refs.again {ρ1 : Rho} : ∀ {is : List Nat} {as as' : List Addr} {ds ds' : List D}, Refs σ ρ is as ds → Refs σ ρ1 is as' ds' → as = as'
  | _, _, _, _, _, .nil, .nil => rfl
  | _, _, _, _, _, .cons h1 _ t, .cons h2 _ t' => by
    rw [h1] at h2
    cases h2
    rw [t.again t']
theorem setOw_get {j : Nat} {s : Slot} : ∀ {is : List Nat} {ds : List D} {ρ : Rho}, (setOwn is ds ρ)[j]? = some s → (∃ d, s = .ow d ∧ j ∈ is) ∨ (ρ[j]? = some s)
  | [], ds, ρ, h => .inr (by cases ds <;> exact h)
  | i :: is, [], ρ, h => .inr h
  | i :: is, d :: ds, ρ, h => by
    rcases setOw_get (is := is) (ds := ds) (show (setOwn is ds (ρ.set i (.ow d)))[j]? = _ from h) with ⟨e, q1, q2⟩ | q
    · exact .inl ⟨e, q1, List.mem_cons_of_mem _ q2⟩
    · rcases getElem?_set_eq q with ⟨e, q2⟩ | ⟨_, q2⟩
      · subst e; exact .inl ⟨d, q2.symm, List.mem_cons_self⟩
      · exact .inr q2
theorem setOw_len : ∀ (is : List Nat) (ds : List D) (ρ : Rho), (setOwn is ds ρ).length = ρ.length
  | [], ds, ρ => by cases ds <;> rfl
  | i :: is, [], ρ => rfl
  | i :: is, d :: ds, ρ => by
    show (setOwn is ds (ρ.set i (.ow d))).length = _
    rw [setOw_len is ds, List.length_set]
/-- one slot's content replaced, all else as it is -/
theorem Ok.calls : ∀ {is : List Nat} {as : List Addr} {os os' : List D} {ρ : Rho}, Refs σ ρ is as os → is.Nodup → OwnAll g.K F' H' as os' → Ok g F H σ ρ → CStep as F H F' H' → Ok g F' H' σ (setOwn is os' ρ) := by
  intro is as os os' ρ hr hn ho ok cs
  have l1 := ho.len
  -- what stands at a slot of the new state
  have key : ∀ (j : Nat) (d : D), (setOwn is os' ρ)[j]? = some (.ow d) → (j ∉ is ∧ ρ[j]? = some (.ow d)) ∨ (j ∈ is ∧ ∃ a, a ∈ as ∧ σ[j]? = some (some (.ref a)) ∧ OwnD g.K F' H' a d) := by
    have gen : ∀ {is : List Nat} {as : List Addr} {os os' : List D} {r : Rho}, Refs σ ρ is as os → is.Nodup → OwnAll g.K F' H' as os' → r.length = ρ.length → ∀ (j : Nat) (d : D), (setOwn is os' r)[j]? = some (.ow d) → (j ∉ is ∧ r[j]? = some (.ow d)) ∨ (j ∈ is ∧ ∃ a, a ∈ as ∧ σ[j]? = some (some (.ref a)) ∧ OwnD g.K F' H' a d) := by
      intro is
      induction is with
      | nil => intro as os os' r h1 _ h2 _ j d h; exact .inl ⟨by simp, by cases os' <;> exact h⟩
      | cons i is ih =>
        intro as os os' r h1 hnd h2 hl j d h
        cases h1 with
        | cons a1 a2 t =>
          rename_i a as' d0 ds0
          cases h2 with
          | cons b1 b2 =>
            rename_i d1 ds1
            obtain ⟨n1, n2⟩ := List.nodup_cons.mp hnd
            rcases ih (r := r.set i (.ow d1)) t n2 b2 (by rw [List.length_set]; exact hl) j d h with ⟨q1, q2⟩ | ⟨q1, a', q2, q3, q4⟩
            · rcases getElem?_set_eq q2 with ⟨e, q⟩ | ⟨n, q⟩
              · subst e
                cases q
                exact .inr ⟨List.mem_cons_self, a, List.mem_cons_self, a1, b1⟩
              · exact .inl ⟨by simp [n, q1], q⟩
            · exact .inr ⟨List.mem_cons_of_mem _ q1, a', List.mem_cons_of_mem _ q2, q3, q4⟩
    exact gen hr hn ho rfl
  -- a slot of is was own before
  have was : ∀ j, j ∈ is → ∃ d a, ρ[j]? = some (.ow d) ∧ σ[j]? = some (some (.ref a)) ∧ a ∈ as := by
    have gen : ∀ {is : List Nat} {as : List Addr} {os : List D}, Refs σ ρ is as os → ∀ j, j ∈ is → ∃ d a, ρ[j]? = some (.ow d) ∧ σ[j]? = some (some (.ref a)) ∧ a ∈ as := by
      intro is
      induction is with
      | nil => intro as os _ j h; cases h
      | cons i is ih =>
        intro as os h j hj
        cases h with
        | cons a1 a2 t =>
          rcases List.mem_cons.mp hj with rfl | hj
          · exact ⟨_, _, a2, a1, List.mem_cons_self⟩
          · obtain ⟨d, a, q1, q2, q3⟩ := ih t j hj
            exact ⟨d, a, q1, q2, List.mem_cons_of_mem _ q3⟩
    exact gen hr
  have owns : ∀ (j : Nat) (d : D), (setOwn is os' ρ)[j]? = some (.ow d) → ∃ d', ρ[j]? = some (.ow d') := fun j d h => by
    rcases key j d h with ⟨_, q⟩ | ⟨q, _⟩
    · exact ⟨d, q⟩
    · obtain ⟨d', a, q1, _⟩ := was j q
      exact ⟨d', q1⟩
  refine ⟨cs.sub, ok.f0.trans cs.ff, fun a h => ?_, fun a o h n => ?_, fun a h => cs.th a (ok.there a h), by rw [setOw_len]; exact ok.len, fun i d h => ?_, fun i d h => ?_, fun i j a d e h1 h2 h3 h4 => ?_, fun i a d h1 h2 => ?_, fun i a h => ?_⟩
  · rcases cs.fn a h with z | z
    · exact ok.fnew a z
    · exact .inr (ok.nw0 z)
  · refine cs.kp a o (ok.keep a o h n) fun z => ?_
    obtain ⟨i, d, q1, q2, q3⟩ := hr.mem z
    rcases ok.own i a d q3 q2 with z | z
    · rw [z] at h; cases h
    · exact n i z
  · rcases setOw_get h with ⟨e, q, _⟩ | q
    · cases q
    · obtain ⟨v, h1, h2⟩ := ok.fz i d q
      exact ⟨v, h1, dn_same cs.ff h2⟩
  · rcases key i d h with ⟨n, q⟩ | ⟨_, a, q1, q2, q3⟩
    · obtain ⟨a, h1, h2⟩ := ok.ow i d q
      obtain ⟨o, e⟩ := h2.has
      have na : a ∉ as := fun z => by
        obtain ⟨j, d', q1, q2, q3⟩ := hr.mem z
        have := ok.inj i j a d d' q q3 h1 q2
        subst this
        exact n q1
      refine ⟨a, h1, h2.mono cs.ff (Classical.byContradiction fun z => ?_) fun o e => cs.kp a o e na⟩
      rcases cs.fn a z with z | z
      · exact z h2.nf
      · exact h2.nw z
    · exact ⟨a, q2, q3⟩
  · obtain ⟨d1, q1⟩ := owns i d h1
    obtain ⟨d2, q2⟩ := owns j e h2
    exact ok.inj i j a d1 d2 q1 q2 h3 h4
  · obtain ⟨d1, q1⟩ := owns i d h1
    exact ok.own i a d1 q1 h2
  · obtain ⟨h1, d, h2⟩ := ok.pin i a h
    refine ⟨h1, ?_⟩
    by_cases hi : i ∈ is
    · have gen : ∀ {is : List Nat} {as : List Addr} {os os' : List D} {r : Rho}, Refs σ ρ is as os → OwnAll g.K F' H' as os' → r.length = ρ.length → i < r.length → (i ∈ is ∨ ∃ d, r[i]? = some (Slot.ow d)) → ∃ d, (setOwn is os' r)[i]? = some (Slot.ow d) := by
        intro is
        induction is with
        | nil =>
          intro as os os' r _ h2 _ _ h
          rcases h with h | ⟨d, h⟩
          · cases h
          · exact ⟨d, by cases os' <;> exact h⟩
        | cons j is ih =>
          intro as os os' r h1 h2 hl hb h
          cases h1 with
          | cons a1 a2 t =>
            cases h2 with
            | cons b1 b2 =>
              rename_i d1 ds1
              refine ih (r := r.set j (.ow d1)) t b2 (by rw [List.length_set]; exact hl) (by rw [List.length_set]; exact hb) ?_
              by_cases e : j = i
              · subst e; exact .inr ⟨d1, List.getElem?_set_self hb⟩
              · rcases h with h | ⟨d, h⟩
                · rcases List.mem_cons.mp h with z | z
                  · exact absurd z.symm e
                  · exact .inl z
                · exact .inr ⟨d, by rw [List.getElem?_set_ne e]; exact h⟩
      exact gen hr ho rfl (List.getElem?_eq_some_iff.mp h2).1 (.inl hi)
    · have gen : ∀ (is : List Nat) (os' : List D) (r : Rho), i ∉ is → (setOwn is os' r)[i]? = r[i]? := by
        intro is
        induction is with
        | nil => intro os' r _; cases os' <;> rfl
        | cons j is ih =>
          intro os' r h
          cases os' with
          | nil => rfl
          | cons d1 ds1 =>
            show (setOwn is ds1 (r.set j (.ow d1)))[i]? = _
            rw [ih ds1 _ fun z => h (List.mem_cons_of_mem _ z), List.getElem?_set_ne fun e => h (by simp [e])]
      exact ⟨d, by rw [gen is os' ρ hi]; exact h2⟩
theorem Step.calls (hr : Refs σ ρ is as os) (cs : CStep as F H F' H') (ok : Ok g F' H' σ (setOwn is os' ρ)) : Step σ ρ F H (setOwn is os' ρ) F' H' where
  ff := cs.ff
  kp := fun a o h n => cs.kp a o h fun z => by
    obtain ⟨i, d, q1, q2, q3⟩ := hr.mem z
    exact n ⟨i, d, q3, q2⟩
  fn := fun a h => (cs.fn a h).imp_right .inl
  th := cs.th
  sh := fun a ⟨i, d, h1, h2⟩ => by
    rcases setOw_get h1 with ⟨e, _, q⟩ | q
    · have gen : ∀ {is : List Nat} {as : List Addr} {os : List D}, Refs σ ρ is as os → i ∈ is → ∃ d, ρ[i]? = some (Slot.ow d) := by
        intro is
        induction is with
        | nil => intro as os _ h; cases h
        | cons j is ih =>
          intro as os h hj
          cases h with
          | cons a1 a2 t =>
            rcases List.mem_cons.mp hj with rfl | hj
            · exact ⟨_, a2⟩
            · exact ih t hj
      obtain ⟨d', q'⟩ := gen hr q
      exact ⟨i, d', q', h2⟩
    · exact ⟨i, d, q, h2⟩
end
/-- the own arguments ahead, then the others -/
def tAr (g : Gh) (W : WX) (is : List Nat) (ks : Rho → Res (List D)) : TA := fun σ H Q => ∃ F ρ os as, Ok g F H σ ρ ∧ Refs σ ρ is as os ∧ Post g W σ (fun _ _ F' _ vs es => ∃ ws, vs = as.map V.ref ++ ws ∧ DnAll g.K F' ws es) F H ρ (ks ρ) Q
section
variable {X : Cx} {g : Gh} {W : WX} {m : RM} {es : List Expr} {ks : Rho → Res (List D)} {is : List Nat} {pos p : Pos}
theorem m_ar0 (h : PA X es (tA g W ks)) : PA X es (tAr g W [] ks) := pa_mono h fun σ H Q ⟨F, ρ, os, as, ok, hr, q⟩ => by
  cases hr
  refine ⟨F, ρ, ok, ?_⟩
  cases e : ks ρ with
  | ok ds ρ1 => rw [e] at q; exact fun vs F1 H1 st ok1 r => q vs F1 H1 st ok1 ⟨vs, rfl, r⟩
  | ex n ρ1 => rw [e] at q; exact q
  | bad => rw [e] at q; exact q
theorem m_ar1 (i : Nat) {x : Str} (hr : PA X es (tAr g W is ks)) (hN : X.N[i]? = some x := by rfl) (hv : Vis X.env.scope x := by first | exact Or.inl rfl | exact Or.inr (Or.inl rfl) | exact Or.inr (Or.inr rfl))
    (hd : (x == ("__debug__" : Str)) = false := by decide) (hcd : (x == ("__classdict__" : Str)) = false := by decide) (hs : starEach (.Name x p :: es) X.env = (false, eval (.Name x p) X.env) :: starEach es X.env := by rfl) :
    PA X (.Name x p :: es) (tAr g W (i :: is) ks) := pa_mono (pa_cons (pe_var hN hv hd hcd) hr hs) fun σ H Q ⟨F, ρ, os, as, ok, hr, q⟩ => by
  cases hr with
  | cons h1 h2 t =>
    refine ⟨_, h1, F, ρ, _, _, ok, t, ?_⟩
    cases e : ks ρ with
    | ok ds ρ1 =>
      rw [e] at q
      rintro vs F1 H1 st ok1 ⟨ws, rfl, r⟩
      exact q _ F1 H1 st ok1 ⟨ws, rfl, r⟩
    | ex n ρ1 => rw [e] at q; exact q
    | bad => rw [e] at q; exact q
theorem callM {np : Nat} {Fm : List D → List D → FR} {t : TA} {σ : St} {H : Hp} {Q : VK} (ht : t = tAr g W is ks) (hnd : is.Nodup) (hl : ∀ ρ ds ρ1, ks ρ = .ok ds ρ1 → is.length + ds.length = np) (h : tE m g W (mArgs is ks Fm) σ H Q) :
    t σ H fun vs H1 => spM g.K g.mg np is.length m Fm vs H1 Q (WE W σ) := by
  subst ht
  obtain ⟨F, ρ, ok, h⟩ := h
  unfold mArgs at h
  cases q0 : getOw is ρ with
  | none => rw [q0] at h; exact h.elim
  | some os0 =>
    rw [q0] at h
    dsimp only at h
    obtain ⟨as, hr, _⟩ := refs_of ok q0
    refine ⟨F, ρ, os0, as, ok, hr, ?_⟩
    cases q : ks ρ with
    | bad => rw [q] at h; exact h.elim
    | ex n ρ1 => rw [q] at h; exact h
    | ok ds ρ1 =>
      rw [q, Res.bind_ok] at h
      rintro vs F1 H1 st ok1 ⟨ws, rfl, hws⟩
      cases q1 : getOw is ρ1 with
      | none => rw [q1] at h; exact h.elim
      | some os =>
        rw [q1] at h
        dsimp only at h
        obtain ⟨as', hr1, ho1⟩ := refs_of ok1 q1
        have e := hr.again hr1
        subst e
        have lis : as.length = is.length := by
          have gen : ∀ {is : List Nat} {as : List Addr} {os : List D}, Refs σ ρ1 is as os → as.length = is.length := by
            intro is
            induction is with
            | nil => intro as os h; cases h; rfl
            | cons i is ih => intro as os h; cases h with | cons _ _ t => rw [List.length_cons, List.length_cons, ih t]
          exact gen hr1
        have ld := hl ρ ds ρ1 q
        have lw := dna_len hws
        refine ⟨F1, as, os, ws, ds, rfl, lis, by omega, hr1.nodup ok1 hnd, ho1, hws, ok1.sub, ?_⟩
        cases q2 : Fm os ds with
        | bad => rw [q2] at h; exact h.elim
        | ok d os' =>
          rw [q2] at h
          intro v F' H' cs hos r
          have ok2 : Ok g F' H' σ (setOwn is os' ρ1) := Ok.calls hr1 hnd hos ok1 cs
          have st2 := Step.calls hr1 cs ok2
          refine h v F' H' (st.trans st2) ok2 ?_
          cases m with
          | pure => exact r
          | fresh =>
            obtain ⟨a, e, r1, r2⟩ := r
            have ha : H a = none := st.gone r1
            refine ⟨a, e, ha, r2, fun z => ?_⟩
            obtain ⟨_, o, e⟩ := ok1.hasOwned (st2.sh a z)
            rw [r1] at e; cases e
        | ex n os' =>
          rw [q2] at h
          intro cls F' H' hm cs hos
          exact h F' H' cls hm (st.ff.trans cs.ff) (Ok.calls hr1 hnd hos ok1 cs)
theorem m_call {x : Str} {np : Nat} {Fm : List D → List D → FR} {k : Nat} {f : Addr} {fd : FuncData} {ps : List Str} {e : Expr} (Fn : FnOk X.prog X.w X.K X.mg X.base (L2.CX X.prog X.w) k f fd ps (spM g.K g.mg np is.length m Fm)) (hr : Room k X.A) (hm : X.mg x = some (.ref f)) (hk : PySem.W.keepIn X.K (.ref f) = true)
    (hb : Binds X.K fd ps []) (tk : Takes X W) (ha : PA X (e :: es) (tAr g W is ks)) (hl : ∀ ρ ds ρ1, ks ρ = .ok ds ρ1 → is.length + ds.length = np) (hnd : is.Nodup := by decide) (hg : Gl X x := by rfl)
    (hdb : (x == ("__debug__" : Str)) = false := by decide) (he : starEach (e :: es) X.env = (false, eval e X.env) :: starEach es X.env := by rfl) (hpl : (backTo pos (starEach es X.env)).any (·.1) = false := by rfl) :
    PE X (.Call (.Name x p) (e :: es) [] pos) (tE m g W (mArgs is ks Fm)) :=
  pe_mono (pe_callS Fn hr hg hm hk hb (fun σ => passAt tk σ) ha hdb he hpl) fun σ H Q h => callM rfl hnd hl h
theorem len_nil {ρ : Rho} {ds : List D} {ρ1 : Rho} (h : mNil ρ = .ok ds ρ1) : ds.length = 0 := by cases h; rfl
theorem len_cons {f : Rho → Res D} {ks : Rho → Res (List D)} {n : Nat} (hk : ∀ ρ ds ρ1, ks ρ = .ok ds ρ1 → ds.length = n) : ∀ ρ ds ρ1, mCons f ks ρ = .ok ds ρ1 → ds.length = n + 1 := fun ρ ds ρ1 h => by
  unfold mCons at h
  cases q : f ρ with
  | bad => rw [q] at h; cases h
  | ex n ρ2 => rw [q] at h; cases h
  | ok d ρ2 =>
    rw [q, Res.bind_ok] at h
    cases q2 : ks ρ2 with
    | bad => rw [q2] at h; cases h
    | ex n ρ3 => rw [q2] at h; cases h
    | ok es ρ3 =>
      rw [q2] at h
      cases h
      rw [List.length_cons, hk _ _ _ q2]
end
end Mi
set_option Elab.async false
set_option linter.all false
set_option maxRecDepth 100000
namespace Mi
open PySem PySem.Spec L2

def ownL (i : Nat) (ρ : Rho) : Option (List D) := match ρ[i]? with
  | some (.ow (.list ds)) => some ds
  | _ => none
theorem ownL_eq {i : Nat} {ρ : Rho} {ds : List D} (h : ownL i ρ = some ds) : ρ[i]? = some (.ow (.list ds)) := by
  unfold ownL at h
  split at h
  · rename_i e; cases h; exact e
  · cases h
section
variable {g : Gh} {F H : Hp} {σ : St} {ρ : Rho} {i : Nat} {ds : List D}
theorem own_at (ok : Ok g F H σ ρ) (h : ownL i ρ = some ds) : ∃ a vs, σ[i]? = some (some (.ref a)) ∧ F a = none ∧ H a = some (.lst vs) ∧ DnAll g.K F vs ds := by
  obtain ⟨a, h1, h2⟩ := ok.ow i _ (ownL_eq h)
  cases h2 with
  | lst e1 e2 e3 => exact ⟨a, _, h1, e1, e2, e3⟩
theorem own_dp {K : PySem.W.Frag} {a : Addr} {vs : List V} (e : Same F H) (h : H a = some (.lst vs)) (hd : DnAll K F vs ds) (p : (PyData.list ds).plain = true) : Dp K H (.ref a) (.list ds) :=
  .lst (.of h) (dna_dp e hd (by simpa [PyData.plain] using p))
end
/-- behind the first operand, an own list at slot i, read when the operation runs -/
def mVarZ (i : Nat) : Rho → Res D := fun ρ => match ownL i ρ with
  | some ds => .ok (.list ds) (ρ.set i (.fz (.list ds)))
  | none => .bad
def mOwn1 (o : D → Option D) (i : Nat) : Rho → Res D := fun ρ => match ownL i ρ with
  | some ds => ofOpt (o (.list ds)) ρ
  | none => .bad
def mOwnL (o : D → D → Option D) (i : Nat) (k : Rho → Res D) : Rho → Res D := fun ρ => match ownL i ρ with
  | none => .bad
  | some _ => (k ρ).bind fun y ρ1 => match ownL i ρ1 with
    | some ds => ofOpt (o (.list ds) y) ρ1
    | none => .bad
def mOwnR (o : D → D → Option D) (f : Rho → Res D) (i : Nat) : Rho → Res D := fun ρ => (f ρ).bind fun x ρ1 => match ownL i ρ1 with
  | some ds => ofOpt (o x (.list ds)) ρ1
  | none => .bad
section
variable {X : Cx} {g : Gh} {W : WX} {a b c : Expr} {pos p : Pos} {f k l : Rho → Res D} {m : RM} {x : Str} {i : Nat}
/-- how a name in slot i is read -/
structure NmAt (X : Cx) (i : Nat) (x : Str) : Prop where
  hN : X.N[i]? = some x
  hv : Vis X.env.scope x
  hd : (x == ("__debug__" : Str)) = false
  hcd : (x == ("__classdict__" : Str)) = false
theorem NmAt.pe (n : NmAt X i x) : PE X (.Name x pos) (tVar i) := pe_var n.hN n.hv n.hd n.hcd
theorem m_varZ (n : NmAt X i x) (hp : NoPin g i) : PE X (.Name x pos) (tE .pure g W (mVarZ i)) := pe_mono n.pe fun σ H Q ⟨F, ρ, ok, h⟩ => by
  unfold mVarZ at h
  cases q : ownL i ρ with
  | none => rw [q] at h; exact h.elim
  | some ds =>
    rw [q] at h
    obtain ⟨a, vs, h1, h2, h3, h4⟩ := own_at ok q
    obtain ⟨k1, k2, k3⟩ := ok.frzO (ownL_eq q) h1 hp h3 h4
    exact ⟨_, h1, h _ _ _ k2 k1 k3⟩
/-- operations by values, the left one an own list -/
def OpOL (g : Gh) (W : WX) (m : RM) (r : R2) (o : D → D → Option D) : Prop := ∀ σ F H ρ a vs ds y e z Q, Ok g F H σ ρ → H a = some (.lst vs) → DnAll g.K F vs ds → Dn g.K F y e → o (.list ds) e = some z → Post g W σ (rE m g σ) F H ρ (.ok z ρ) Q → r (.ref a) y H Q
def OpOR (g : Gh) (W : WX) (m : RM) (r : R2) (o : D → D → Option D) : Prop := ∀ σ F H ρ a vs ds x d z Q, Ok g F H σ ρ → H a = some (.lst vs) → DnAll g.K F vs ds → Dn g.K F x d → o d (.list ds) = some z → Post g W σ (rE m g σ) F H ρ (.ok z ρ) Q → r x (.ref a) H Q
theorem own_same {F H F1 H1 : Hp} {σ : St} {ρ ρ1 : Rho} {ds es : List D} (ok : Ok g F H σ ρ) (ok1 : Ok g F1 H1 σ ρ1) (h : ownL i ρ = some ds) (h1 : ownL i ρ1 = some es) : ∃ a vs, σ[i]? = some (some (.ref a)) ∧ F1 a = none ∧ H1 a = some (.lst vs) ∧ DnAll g.K F1 vs es := own_at ok1 h1
theorem tOpOL {r : R2} {o : D → D → Option D} (hr : OpOL g W m r o) {σ : St} {H : Hp} {Q : VK} (h : tE m g W (mOwnL o i k) σ H Q) : tOp r (tVar i) (tE .pure g W k) σ H Q := by
  obtain ⟨F, ρ, ok, h⟩ := h
  unfold mOwnL at h
  cases q : ownL i ρ with
  | none => rw [q] at h; exact h.elim
  | some ds0 =>
    rw [q] at h
    obtain ⟨a, vs, h1, _⟩ := own_at ok q
    refine ⟨_, h1, F, ρ, ok, Post.bind h fun e ρ1 y F1 H1 st ok1 hy h2 => ?_⟩
    cases q1 : ownL i ρ1 with
    | none => rw [q1] at h2; exact h2.elim
    | some ds =>
      rw [q1] at h2
      obtain ⟨a', vs', k1, k2, k3, k4⟩ := own_at ok1 q1
      rw [h1] at k1
      cases k1
      cases q2 : o (.list ds) e with
      | none => simp only [q2] at h2; exact h2.elim
      | some z => simp only [q2] at h2; exact hr σ F1 H1 ρ1 _ vs' ds y e z Q ok1 k3 k4 hy q2 h2
theorem tOpOR {r : R2} {o : D → D → Option D} (hr : OpOR g W m r o) {σ : St} {H : Hp} {Q : VK} (h : tE m g W (mOwnR o f i) σ H Q) : tOp r (tE .pure g W f) (tVar i) σ H Q := by
  obtain ⟨F, ρ, ok, h⟩ := h
  refine ⟨F, ρ, ok, Post.bind h fun d ρ1 x F1 H1 st ok1 hx h2 => ?_⟩
  cases q1 : ownL i ρ1 with
  | none => rw [q1] at h2; exact h2.elim
  | some ds =>
    rw [q1] at h2
    obtain ⟨a, vs, k1, k2, k3, k4⟩ := own_at ok1 q1
    cases q2 : o d (.list ds) with
    | none => simp only [q2] at h2; exact h2.elim
    | some z => simp only [q2] at h2; exact ⟨_, k1, hr σ F1 H1 ρ1 _ vs ds x d z Q ok1 k3 k4 hx q2 h2⟩
theorem m_cmpOL {op : CmpOp} {r : R2} {o : D → D → Option D} (ho : OpR X (compareOp op) r) (hr : OpOL g W m r o) (n : NmAt X i x) (hb : PE X b (tE .pure g W k)) (hm : behindInMarks op b = false := by first | exact nomark _ | rfl) :
    PE X (.Compare (.Name x p) [op] [b] pos) (tE m g W (mOwnL o i k)) := pe_mono (pe_cmpR ho n.pe hb hm) fun _ _ _ h => tOpOL hr h
theorem m_cmpOR {op : CmpOp} {r : R2} {o : D → D → Option D} (ho : OpR X (compareOp op) r) (hr : OpOR g W m r o) (ha : PE X a (tE .pure g W f)) (n : NmAt X i x) (hm : behindInMarks op (.Name x p) = false := by first | exact nomark _ | rfl) :
    PE X (.Compare a [op] [.Name x p] pos) (tE m g W (mOwnR o f i)) := pe_mono (pe_cmpR ho ha n.pe hm) fun _ _ _ h => tOpOR hr h
theorem m_pcmpOL {op : CmpOp} {r : R2} {o : D → D → Option D} (ho : OpR X (compareOp op) r) (hr : OpOL g W .pure r o) (n : NmAt X i x) (hb : PE X b (tE .pure g W k)) (hm : behindInMarks op b = false := by first | exact nomark _ | rfl) :
    PT X (.Compare (.Name x p) [op] [b] pos) (tT g W (mTest (mOwnL o i k))) := pt_mono (pt_cmpR ho n.pe hb hm) fun σ H Q h => by
  obtain ⟨F, ρ, ok, h⟩ := h
  refine tOpOL hr ⟨F, ρ, ok, Post.bind h fun d ρ1 x F1 H1 st ok1 hx h1 => ?_⟩
  cases hx <;> first | exact h1.elim | exact ⟨_, rfl, h1.done ok1 rfl⟩
theorem m_pcmpOR {op : CmpOp} {r : R2} {o : D → D → Option D} (ho : OpR X (compareOp op) r) (hr : OpOR g W .pure r o) (ha : PE X a (tE .pure g W f)) (n : NmAt X i x) (hm : behindInMarks op (.Name x p) = false := by first | exact nomark _ | rfl) :
    PT X (.Compare a [op] [.Name x p] pos) (tT g W (mTest (mOwnR o f i))) := pt_mono (pt_cmpR ho ha n.pe hm) fun σ H Q h => by
  obtain ⟨F, ρ, ok, h⟩ := h
  refine tOpOR hr ⟨F, ρ, ok, Post.bind h fun d ρ1 x F1 H1 st ok1 hx h1 => ?_⟩
  cases hx <;> first | exact h1.elim | exact ⟨_, rfl, h1.done ok1 rfl⟩
theorem ol_eq : OpOL g W .pure (rEqP g.K false) eqD := by
  intro σ F H ρ a vs ds y e z Q ok h1 h2 hy ho h
  unfold eqD at ho
  split at ho
  · rename_i hk
    cases ho
    have hk' := hk
    unfold eqOk at hk'
    simp only [Bool.and_eq_true, decide_eq_true_eq] at hk'
    exact ⟨_, e, own_dp ok.sub h1 h2 hk'.1.1, dn_dp ok.sub hy hk'.1.2, hk, h.done ok (.bl _)⟩
  · cases ho
theorem ol_ne : OpOL g W .pure (rEqP g.K true) neD := by
  intro σ F H ρ a vs ds y e z Q ok h1 h2 hy ho h
  unfold neD at ho
  split at ho
  · rename_i hk
    cases ho
    have hk' := hk
    unfold eqOk at hk'
    simp only [Bool.and_eq_true, decide_eq_true_eq] at hk'
    exact ⟨_, e, own_dp ok.sub h1 h2 hk'.1.1, dn_dp ok.sub hy hk'.1.2, hk, h.done ok (.bl _)⟩
  · cases ho
theorem or_eq : OpOR g W .pure (rEqP g.K false) eqD := by
  intro σ F H ρ a vs ds y e z Q ok h1 h2 hy ho h
  unfold eqD at ho
  split at ho
  · rename_i hk
    cases ho
    have hk' := hk
    unfold eqOk at hk'
    simp only [Bool.and_eq_true, decide_eq_true_eq] at hk'
    exact ⟨e, _, dn_dp ok.sub hy hk'.1.1, own_dp ok.sub h1 h2 hk'.1.2, hk, h.done ok (.bl _)⟩
  · cases ho
theorem or_ne : OpOR g W .pure (rEqP g.K true) neD := by
  intro σ F H ρ a vs ds y e z Q ok h1 h2 hy ho h
  unfold neD at ho
  split at ho
  · rename_i hk
    cases ho
    have hk' := hk
    unfold eqOk at hk'
    simp only [Bool.and_eq_true, decide_eq_true_eq] at hk'
    exact ⟨e, _, dn_dp ok.sub hy hk'.1.1, own_dp ok.sub h1 h2 hk'.1.2, hk, h.done ok (.bl _)⟩
  · cases ho
theorem or_in {neg : Bool} : OpOR g W .pure (rInP g.K neg) (inD neg) := by
  intro σ F H ρ a vs ds x d z Q ok h1 h2 hx ho h
  simp only [inD] at ho
  split at ho
  · rename_i hk
    cases ho
    have hk' := hk
    unfold inOk at hk'
    simp only [Bool.and_eq_true, decide_eq_true_eq] at hk'
    exact ⟨d, ds, dn_dp ok.sub hx hk'.1.1, .inl (own_dp ok.sub h1 h2 (by simpa [PyData.plain] using hk'.1.2)), hk, h.done ok (.bl _)⟩
  · cases ho
theorem ol_ix : OpOL g W .pure (rIx g.K) ixD := by
  intro σ F H ρ a vs ds y e z Q ok h1 h2 hy ho h
  cases hy <;> simp only [ixD, reduceCtorEq] at ho
  obtain ⟨v, k1, k2⟩ := dna_at h2 ho
  exact .inl ⟨_, _, _, _, rfl, rfl, .of h1, k1, h.done ok k2⟩
theorem m_ixO (n : NmAt X i x) (hb : PE X b (tE .pure g W k)) (hK : X.K = g.K := by rfl) (hs : PlainIx b := by exact fun _ _ => rfl) : PE X (.Subscript (.Name x p) b pos) (tE .pure g W (mOwnL ixD i k)) :=
  pe_mono (pe_ix ix_seq n.pe hb hs) fun _ _ _ h => tOpOL (by rw [hK]; exact ol_ix) h
/-- a slice of an own list -/
def mSlO (i : Nat) (lo hi : Rho → Res (Option Int)) : Rho → Res D := fun ρ => match ownL i ρ with
  | none => .bad
  | some _ => (lo ρ).bind fun u ρ1 => (hi ρ1).bind fun w ρ2 => match ownL i ρ2 with
    | some ds => .ok (.list (cut ds u w)) ρ2
    | none => .bad
theorem m_slO {lo hi : Option Expr} {tl th : Rho → Res (Option Int)} {p2 : Pos} (n : NmAt X i x) (hl : PO X lo (tO g W tl)) (hu : PO X hi (tO g W th)) (hK : X.K = g.K := by rfl) :
    PE X (.Subscript (.Name x p) (.Slice lo hi none p2) pos) (tE .fresh g W (mSlO i tl th)) :=
  pe_mono (pe_slice sl_list n.pe hl hu) fun σ H Q ⟨F, ρ, ok, h⟩ => by
    unfold mSlO at h
    cases q : ownL i ρ with
    | none => rw [q] at h; exact h.elim
    | some ds0 =>
      rw [q] at h
      obtain ⟨a, vs, h1, _⟩ := own_at ok q
      refine ⟨_, h1, F, ρ, ok, Post.bind h fun u ρ1 u' F1 H1 st ok1 e1 h2 => ⟨F1, ρ1, ok1, Post.bind h2 fun w ρ2 w' F2 H2 st2 ok2 e2 h3 => ?_⟩⟩
      have e1' : u' = u := e1
      have e2' : w' = w := e2
      subst e1' e2'
      cases q2 : ownL i ρ2 with
      | none => rw [q2] at h3; exact h3.elim
      | some ds =>
        rw [q2] at h3
        obtain ⟨a', vs', k1, k2, k3, k4⟩ := own_at ok2 q2
        rw [h1] at k1
        cases k1
        rw [hK]
        exact ⟨_, _, rfl, .of k3, fun p hp => h3.newL ok2 (dna_cut _ _ k4) hp⟩
/-- a built-in on an own list -/
def CaO (g : Gh) (W : WX) (m : RM) (r : List V → Hp → VK → Prop) (o : D → Option D) : Prop := ∀ σ F H ρ a vs ds z Q, Ok g F H σ ρ → H a = some (.lst vs) → DnAll g.K F vs ds → o (.list ds) = some z → Post g W σ (rE m g σ) F H ρ (.ok z ρ) Q → r [.ref a] H Q
theorem tCBO {r : List V → Hp → VK → Prop} {o : D → Option D} (hr : CaO g W m r o) {σ : St} {H : Hp} {Q : VK} (h : tE m g W (mOwn1 o i) σ H Q) : tCB r (tCons (tVar i) tNil) σ H Q := by
  obtain ⟨F, ρ, ok, h⟩ := h
  unfold mOwn1 at h
  cases q : ownL i ρ with
  | none => rw [q] at h; exact h.elim
  | some ds =>
    rw [q] at h
    obtain ⟨a, vs, h1, h2, h3, h4⟩ := own_at ok q
    refine ⟨_, h1, ?_⟩
    cases q2 : o (.list ds) with
    | none => simp only [q2] at h; exact h.elim
    | some z => simp only [q2] at h; exact hr σ F H ρ a vs ds z Q ok h3 h4 q2 h
theorem m_callBO {y : Str} {id : String} {r : List V → Hp → VK → Prop} {o : D → Option D} {p2 : Pos} (hc : CallR X (.builtin id) r) (hr : CaO g W m r o) (hm : X.mg y = none) (n : NmAt X i x)
    (hv : bootBuiltins y = some (.builtin id) := by decide +kernel) (hg : Gl X y := by rfl) (hn : y ≠ "__name__" := by decide) (hdb : (y == ("__debug__" : Str)) = false := by decide)
    (he : starEach [.Name x p2] X.env = [(false, eval (.Name x p2) X.env)] := by rfl) (hpl : (backTo pos (starEach [] X.env)).any (·.1) = false := by rfl) : PE X (.Call (.Name y p) [.Name x p2] [] pos) (tE m g W (mOwn1 o i)) :=
  pe_mono (pe_callB hc hg hm hv (pa_cons n.pe pa_nil) hn hdb he hpl) fun _ _ _ h => tCBO hr h
theorem m_callTO {y : Str} {T : String} {r : List V → Hp → VK → Prop} {o : D → Option D} {p2 : Pos} (hc : CallR X (.type T) r) (hr : CaO g W m r o) (hm : X.mg y = none) (n : NmAt X i x)
    (hv : bootBuiltins y = some (.type T) := by decide +kernel) (hg : Gl X y := by rfl) (hn : y ≠ "__name__" := by decide) (hdb : (y == ("__debug__" : Str)) = false := by decide)
    (he : starEach [.Name x p2] X.env = [(false, eval (.Name x p2) X.env)] := by rfl) (hpl : (backTo pos (starEach [] X.env)).any (·.1) = false := by rfl) : PE X (.Call (.Name y p) [.Name x p2] [] pos) (tE m g W (mOwn1 o i)) :=
  pe_mono (pe_callTy hc hg hm hv (pa_cons n.pe pa_nil) hn hdb he hpl) fun _ _ _ h => tCBO hr h
def len1 (d : D) : Option D := lenD [d]
def list1 (d : D) : Option D := listD [d]
def tuple1 (d : D) : Option D := tupleD [d]
theorem co_len : CaO g W .pure (fun xs H Q => ∃ p ys, xs = [.ref p] ∧ (SqL g.K H p ys ∨ SqT g.K H p ys) ∧ Q (.int ys.length) H) len1 := by
  intro σ F H ρ a vs ds z Q ok h1 h2 ho h
  cases ho
  refine ⟨_, _, rfl, .inl (.of h1), ?_⟩
  rw [dna_len h2]
  exact h.done ok (.int _)
theorem co_list : CaO g W .fresh (fun xs H Q => ∃ p ys, xs = [.ref p] ∧ (SqL g.K H p ys ∨ SqT g.K H p ys) ∧ ∀ l, H l = none → Q (.ref l) (upd H l (.lst ys))) list1 := by
  intro σ F H ρ a vs ds z Q ok h1 h2 ho h
  cases ho
  exact ⟨_, _, rfl, .inl (.of h1), fun p hp => h.newL ok h2 hp⟩
theorem co_tuple : CaO g W .pure (fun xs H Q => ∃ p ys, xs = [.ref p] ∧ ((SqL g.K H p ys ∧ ∀ l, H l = none → Q (.ref l) (upd H l (.tup ys))) ∨ (SqT g.K H p ys ∧ Q (.ref p) H))) tuple1 := by
  intro σ F H ρ a vs ds z Q ok h1 h2 ho h
  cases ho
  exact ⟨_, _, rfl, .inl ⟨.of h1, fun p hp => h.newT ok h2 hp⟩⟩
/-- while x: if not x: -/
def mTruO (i : Nat) : Rho → Res Bool := fun ρ => match ownL i ρ with
  | some ds => .ok (!ds.isEmpty) ρ
  | none => .bad
theorem m_truthO (n : NmAt X i x) (hK : X.K = g.K := by rfl) : PT X (.Name x pos) (tT g W (mTruO i)) := pt_mono (pt_truth n.pe (by intro _; rfl)) fun σ H Q ⟨F, ρ, ok, h⟩ => by
  unfold mTruO at h
  cases q : ownL i ρ with
  | none => rw [q] at h; exact h.elim
  | some ds =>
    rw [q] at h
    obtain ⟨a, vs, h1, h2, h3, h4⟩ := own_at ok q
    exact ⟨_, h1, _, .inl ⟨_, .of h3, dna_empty h4⟩, h.done ok rfl⟩

theorem Post.mut {d : D} {v : V} {σ : St} {F H : Hp} {ρ : Rho} {Q : VK} {a : Addr} {ds ds' : List D} {vs' : List V} (h : Post g W σ (rE .pure g σ) F H ρ (.ok d (ρ.set i (.ow (.list ds')))) Q) (ok : Ok g F H σ ρ) (hi : ownL i ρ = some ds) (ha : σ[i]? = some (some (.ref a)))
    (hd : DnAll g.K F vs' ds') (hv : Dn g.K F v d) : Q v (upd H a (.lst vs')) := by
  obtain ⟨a', vs, h1, h2, h3, h4⟩ := own_at ok hi
  rw [ha] at h1
  cases h1
  exact h v F _ (Step.mut (ownL_eq hi) ha ⟨_, h3⟩) (ok.mut (ownL_eq hi) ha (.lst h2 upd_same hd)) hv
def mAppend (i : Nat) (f : Rho → Res D) : Rho → Res D := fun ρ => match ownL i ρ with
  | none => .bad
  | some _ => (f ρ).bind fun x ρ1 => match ownL i ρ1 with
    | some ds => if ds.length < 1000000 then .ok .none (ρ1.set i (.ow (.list (ds ++ [x])))) else .bad
    | none => .bad
theorem m_append {ap : Pos} (n : NmAt X i x) (ha : PE X a (tE .pure g W f)) (hfew : ((backTo pos (starEach [a] X.env)).all (fun x => !x.1) && (backToKw pos (keywordEach [] X.env)).all (fun x => x.1.isSome)
      && decide ([a].length + ([] : List Keyword).length + (if ([] : List Keyword).isEmpty then 0 else 1) < 30)) = true := by rfl)
    (hline : (ap.endLine == pos.line) = true := by rfl) (he : starEach [a] X.env = [(false, eval a X.env)] := by rfl) (hpl : (backTo pos (starEach [] X.env)).any (·.1) = false := by rfl) :
    PE X (.Call (.Attribute (.Name x p) "append" ap) [a] [] pos) (tE .pure g W (mAppend i f)) :=
  pe_mono (pe_bm PySem.F.plainAttrs_list PySem.F.slot_list_append PySem.F.type_list_append mt_append n.pe (pa_cons ha pa_nil he) (by rfl) hfew hline he hpl) fun σ H Q ⟨F, ρ, ok, h⟩ => by
    unfold mAppend at h
    cases q : ownL i ρ with
    | none => rw [q] at h; exact h.elim
    | some ds0 =>
      rw [q] at h
      obtain ⟨a', vs, h1, h2, h3, h4⟩ := own_at ok q
      refine ⟨_, h1, .inl ⟨rfl, _, .of h3⟩, F, ρ, ok, Post.bind h fun d ρ1 v F1 H1 st ok1 hv hp => ?_⟩
      cases q1 : ownL i ρ1 with
      | none => rw [q1] at hp; exact hp.elim
      | some ds =>
        simp only [q1] at hp
        obtain ⟨a2, vs', k1, k2, k3, k4⟩ := own_at ok1 q1
        rw [h1] at k1
        cases k1
        split at hp
        · rename_i hz
          exact ⟨_, vs', v, rfl, rfl, k3, by rw [dna_len k4, sizeLine_eq]; omega, hp.mut ok1 q1 h1 (dna_app k4 (.cons hv .nil)) .non⟩
        · exact hp.elim
def mPop (i : Nat) : Rho → Res D := fun ρ => match ownL i ρ with
  | some ds => match ds.getLast? with
    | some d => .ok d (ρ.set i (.ow (.list ds.dropLast)))
    | none => .bad
  | none => .bad
theorem dna_dropLast {K : PySem.W.Frag} {F : Hp} {vs : List V} {ds : List D} (h : DnAll K F vs ds) : DnAll K F vs.dropLast ds.dropLast := by
  rw [List.dropLast_eq_take, List.dropLast_eq_take, dna_len h]
  exact dna_take _ h
theorem m_pop {ap : Pos} (n : NmAt X i x) (hline : (ap.endLine == pos.line) = true := by rfl) : PE X (.Call (.Attribute (.Name x p) "pop" ap) [] [] pos) (tE .pure g W (mPop i)) :=
  pe_mono (pe_bm0 PySem.F.plainAttrs_list PySem.F.slot_list_pop PySem.F.type_list_pop mt_pop n.pe (by rfl) hline) fun σ H Q ⟨F, ρ, ok, h⟩ => by
    unfold mPop at h
    cases q : ownL i ρ with
    | none => rw [q] at h; exact h.elim
    | some ds =>
      simp only [q] at h
      obtain ⟨a', vs, h1, h2, h3, h4⟩ := own_at ok q
      cases q2 : ds.getLast? with
      | none => rw [q2] at h; exact h.elim
      | some d =>
        rw [q2] at h
        rw [List.getLast?_eq_getElem?] at q2
        obtain ⟨v, k1, k2⟩ := dna_get h4 q2
        refine ⟨_, h1, .inl ⟨rfl, _, .of h3⟩, _, vs, v, rfl, rfl, h3, by rw [dna_len h4]; exact k1, ?_⟩
        exact h.mut ok q h1 (dna_dropLast h4) k2
def mPopAt (i : Nat) (f : Rho → Res D) : Rho → Res D := fun ρ => match ownL i ρ with
  | none => .bad
  | some _ => (f ρ).bind fun y ρ1 => (ofOpt (asI y) ρ1).bind fun j ρ1 => match ownL i ρ1 with
    | some ds => if 0 ≤ j ∧ j < 1000000 then (match ds[j.toNat]? with
      | some d => .ok d (ρ1.set i (.ow (.list (ds.eraseIdx j.toNat))))
      | none => .bad) else .bad
    | none => .bad
theorem m_popAt {ap : Pos} (n : NmAt X i x) (ha : PE X a (tE .pure g W f)) (hfew : ((backTo pos (starEach [a] X.env)).all (fun x => !x.1) && (backToKw pos (keywordEach [] X.env)).all (fun x => x.1.isSome)
      && decide ([a].length + ([] : List Keyword).length + (if ([] : List Keyword).isEmpty then 0 else 1) < 30)) = true := by rfl)
    (hline : (ap.endLine == pos.line) = true := by rfl) (he : starEach [a] X.env = [(false, eval a X.env)] := by rfl) (hpl : (backTo pos (starEach [] X.env)).any (·.1) = false := by rfl) :
    PE X (.Call (.Attribute (.Name x p) "pop" ap) [a] [] pos) (tE .pure g W (mPopAt i f)) :=
  pe_mono (pe_bm PySem.F.plainAttrs_list PySem.F.slot_list_pop PySem.F.type_list_pop mt_popAt n.pe (pa_cons ha pa_nil he) (by rfl) hfew hline he hpl) fun σ H Q ⟨F, ρ, ok, h⟩ => by
    unfold mPopAt at h
    cases q : ownL i ρ with
    | none => rw [q] at h; exact h.elim
    | some ds0 =>
      rw [q] at h
      obtain ⟨a', vs, h1, h2, h3, h4⟩ := own_at ok q
      refine ⟨_, h1, .inl ⟨rfl, _, .of h3⟩, F, ρ, ok, Post.bind h fun d ρ1 v F1 H1 st ok1 hv hp => ?_⟩
      cases hv <;> first | exact hp.elim | skip
      rename_i j
      simp only [asI, ofOpt_some, Res.bind_ok] at hp
      cases q1 : ownL i ρ1 with
      | none => rw [q1] at hp; exact hp.elim
      | some ds =>
        simp only [q1] at hp
        obtain ⟨a2, vs', k1, k2, k3, k4⟩ := own_at ok1 q1
        rw [h1] at k1
        cases k1
        split at hp
        · rename_i hz
          cases q2 : ds[j.toNat]? with
          | none => rw [q2] at hp; exact hp.elim
          | some d =>
            rw [q2] at hp
            obtain ⟨v, e1, e2⟩ := dna_get k4 q2
            have hj : j.toNat < vs'.length := (List.getElem?_eq_some_iff.mp e1).1
            refine ⟨_, vs', j, j.toNat, v, rfl, rfl, k3, by omega, by omega, ?_, e1, hp.mut ok1 q1 h1 (dna_eraseIdx _ k4) e2⟩
            exact (ixN_seq (n := vs'.length) (i := j) (by unfold ixN; rw [if_pos hz.1, if_pos (by omega)])).1
        · exact hp.elim
/-- x[e] = v -/
def mSetIx (i : Nat) (k fv : Rho → Res D) : Rho → SR := fun ρ => (fv ρ).toS fun v ρ1 => match ownL i ρ1 with
  | none => .bad
  | some _ => (k ρ1).toS fun y ρ2 => (ofOpt (asI y) ρ2).toS fun j ρ2 => match ownL i ρ2 with
    | some ds => match ixN ds.length j with
      | some q => .nx (ρ2.set i (.ow (.list (ds.set q v))))
      | none => .bad
    | none => .bad
theorem m_setIx {e : Expr} {fv : Rho → Res D} {ap : Pos} (n : NmAt X i x) (hv : PE X e (tE .pure g W fv)) (hb : PE X b (tE .pure g W k))
    (has : ∀ v, assign (.Subscript (.Name x p) b ap) X.env v = (do
      let ov ← holding [v] (eval (.Name x p) X.env)
      let iv ← holding [v, ov] (eval b X.env)
      standAt ap
      holding [v, ov, iv] (setItem ov iv v)
      release [v, ov, iv] []) := by intro _; rfl)
    (hs : swapsWithSole [.Subscript (.Name x p) b ap] e pos.line X.env = pure false := by rfl) (hw : swappedStores [.Subscript (.Name x p) b ap] e X.env = pure none := by rfl)
    (h1 : (assignEach [.Subscript (.Name x p) b ap] X.env).map (·.2) = [assign (.Subscript (.Name x p) b ap) X.env] := by rfl) :
    PS X (.Assign [.Subscript (.Name x p) b ap] e pos) (tS g W (mSetIx i k fv)) :=
  ps_mono (ps_asg hv (pg_sub n.pe hb set_list has) hs hw h1) fun E σ H ⟨F, ρ, ok, h⟩ => by
    refine ⟨F, ρ, ok, Post.toS ok h fun d ρ1 v F1 H1 st ok1 hv hp => ?_⟩
    cases q : ownL i ρ1 with
    | none => rw [q] at hp; exact hp.elim
    | some ds0 =>
      simp only [q] at hp
      obtain ⟨a', vs, k1, k2, k3, k4⟩ := own_at ok1 q
      refine ⟨_, k1, F1, ρ1, ok1, Post.toS ok1 hp fun e ρ2 y F2 H2 st2 ok2 hy hp2 => ?_⟩
      cases hy <;> first | exact hp2.elim | skip
      rename_i j
      simp only [asI, ofOpt_some, Res.toS_ok] at hp2
      cases q2 : ownL i ρ2 with
      | none => rw [q2] at hp2; exact hp2.elim
      | some ds =>
        simp only [q2] at hp2
        obtain ⟨a2, vs', e1, e2, e3, e4⟩ := own_at ok2 q2
        rw [k1] at e1
        cases e1
        cases q3 : ixN ds.length j with
        | none => rw [q3] at hp2; exact hp2.elim
        | some w =>
          rw [q3] at hp2
          refine ⟨_, vs', j, w, rfl, rfl, e3, by rw [dna_len e4]; exact q3, ?_⟩
          exact hp2 σ F2 _ (Same.refl _) (ok2.mut (ownL_eq q2) k1 (.lst e2 upd_same (dna_set (dn_same st2.ff hv) w e4)))
/-- x += e, a list -/
def mExt (i : Nat) (f : Rho → Res D) : Rho → SR := fun ρ => match ownL i ρ with
  | none => .bad
  | some _ => (f ρ).toS fun y ρ1 => match ownL i ρ1, y with
    | some ds, .list es => if ds.length + es.length ≤ 1000000 then .nx (ρ1.set i (.ow (.list (ds ++ es)))) else .bad
    | _, _ => .bad
theorem m_ext {e : Expr} {px : Pos} (n : NmAt X i x) (hN : X.N.Nodup) (he : PE X e (tE .pure g W f)) (hx : Loc X.env.scope x := by first | exact Or.inl rfl | exact Or.inr rfl) (hf : X.fn x = true ∨ X.env.scope.names.lookup x = some .local := by first | exact .inl rfl | exact .inr rfl) :
    PS X (.AugAssign (.Name x px) .Add e pos) (tS g W (mExt i f)) :=
  ps_mono (ps_aug hN n.hN hx he (ti := rExt2) iop_ext hf) fun E σ H ⟨F, ρ, ok, h⟩ => by
    unfold mExt at h
    cases q : ownL i ρ with
    | none => rw [q] at h; exact h.elim
    | some ds0 =>
      rw [q] at h
      obtain ⟨a', vs, h1, h2, h3, h4⟩ := own_at ok q
      refine ⟨_, h1, F, ρ, ok, Post.toS ok h fun d ρ1 v F1 H1 st ok1 hv hp => ?_⟩
      cases q1 : ownL i ρ1 with
      | none => rw [q1] at hp; exact hp.elim
      | some ds =>
        simp only [q1] at hp
        obtain ⟨a2, vs', k1, k2, k3, k4⟩ := own_at ok1 q1
        rw [h1] at k1
        cases k1
        cases hv with
        | lst e1 e2 =>
          rename_i b xs es
          dsimp only at hp
          split at hp
          · rename_i hz
            refine ⟨_, _, vs', xs, rfl, rfl, k3, ok1.sub _ _ e1, by rw [dna_len k4, dna_len e2]; exact lim_line hz, ?_⟩
            have e : σ.set i (some (.ref a')) = σ := by
              apply List.ext_getElem?
              intro j
              by_cases e : i = j
              · subst e; rw [List.getElem?_set_self (List.getElem?_eq_some_iff.mp h1).1, h1]
              · rw [List.getElem?_set_ne e]
            show E.nx (σ.set i (some (.ref a'))) _
            rw [e]
            exact hp σ F1 _ (Same.refl _) (ok1.mut (ownL_eq q1) h1 (.lst k2 upd_same (dna_app k4 e2)))
          · exact hp.elim
        | _ => exact hp.elim
end
end Mi
set_option Elab.async false
set_option linter.all false
set_option maxRecDepth 100000
namespace PySem
open Sem (wp)
set_option maxHeartbeats 1000000 in
theorem mi_enum_newB {v : Value} {o : Obj} {H : Heap → Prop} (B : Begins v o H) :
    Meets (Builtin.«enumerate.__new__» ⟨[.type "enumerate", v], []⟩) (fun _ R s => H s.heap ∧
      R (.ok (.ret (.ref (s.heap.push o).objs.size))) { s with heap := (s.heap.push o).push { cls := .type "enumerate", data := .fields #[.none, .bool false, .ref s.heap.objs.size, rawInt 0, .none, .none] } }) :=
  .of_wp fun prog w A R s h => by
    obtain ⟨hp, g, d, tk, os⟩ := s; obtain ⟨h1, h⟩ := h
    have hsub := sub_enumerate
    have q1 : ∀ {A' : Around} {E : Value → Shared → Prop} {Q : Value → Shared → Prop}, Q (.ref hp.objs.size) ⟨hp.push o, g, d, tk, os⟩ → wpAny (model prog w) A' (pyIter v) Q E ⟨hp, g, d, tk, os⟩ :=
      fun q => B.iter prog w _ _ ⟨hp, g, d, tk, os⟩ _ h1 q
    wp_walk using q1
    refine wpAny_stack_any fun st => wpAny_pure ?_
    split
    · rename_i c _ _ _ _ _
      cases (c == Value.type "enumerate")
      · wp_walk using q1
        exact ⟨_, rfl, h⟩
      · wp_walk using q1
        exact ⟨_, rfl, h⟩
    · wp_walk using q1
      exact ⟨_, rfl, h⟩
section
variable {prog : Program} {w : World} {A : Around} {E : Value → Shared → Prop} {s : Shared}
theorem mi_enum_begins {v : Value} {o : Obj} {H : Heap → Prop} {Q : Value → Shared → Prop} (B : Begins v o H) (h1 : H s.heap)
    (h : ∀ h', IsEnum h' (s.heap.objs.size + 1) s.heap.objs.size 0 .none → h'.get? s.heap.objs.size = some o → h'.objs.size = s.heap.objs.size + 2 →
      (∀ b o, s.heap.get? b = some o → h'.get? b = some o) → Q (.ref (s.heap.objs.size + 1)) { s with heap := h' }) :
    wpAny (model prog w) A (call (.type "enumerate") [v]) Q E s := by
  refine callType_new F.called_enumerate (by decide) (F.typeCall_enumerate_1 _) (F.newCall_enumerate_1 _) (fun obj => F.args_object_init_2 obj _) F.entry_enumerate_new
    (mi_enum_newB B) ⟨h1, ?_⟩
  have hz : (s.heap.push o).objs.size = s.heap.objs.size + 1 := Heap.size_push ..
  show _ ∧ _
  rw [hz]
  have he : IsEnum ((s.heap.push o).push { cls := .type "enumerate", data := .fields #[.none, .bool false, .ref s.heap.objs.size, rawInt 0, .none, .none] }) (s.heap.objs.size + 1) s.heap.objs.size 0 .none := by
    have := Heap.get?_push_size (s.heap.push o) (o := { cls := .type "enumerate", data := .fields #[.none, .bool false, .ref s.heap.objs.size, rawInt 0, .none, .none] }) rfl
    rw [hz] at this; exact this
  refine ⟨⟨_, he, rfl⟩, h _ he (Heap.get?_push_of_some _ (Heap.get?_push_size _ B.free)) (by rw [Heap.size_push, hz]) fun b o x => Heap.get?_push_of_some _ (Heap.get?_push_of_some _ x)⟩
end
end PySem
namespace Mi
open PySem PySem.Spec L2
open PyProof.Rows hiding St

/-- a list, a tuple -/
def SqK (k : Bool) (K : PySem.W.Frag) (H : Hp) (a : Addr) (xs : List V) : Prop := if k then SqT K H a xs else SqL K H a xs
def ItrK (k : Bool) (h : Heap) (it a : Addr) (i : Nat) : Prop := if k then h.IsTupleIter it a i else h.IsListIter it a i
def IsK (k : Bool) (h : Heap) (a : Addr) (its : Array Value) : Prop := if k then h.IsTuple a its else h.IsList a its
def oK (k : Bool) (a : Addr) : Obj := if k then { cls := .type "tuple_iterator", data := .fields #[.ref a, .int 0 0] } else { cls := .type "list_iterator", data := .fields #[.ref a, .int 0 0] }
theorem ItrK.at {k : Bool} {h h' : Heap} {it a : Addr} {i : Nat} (x : ItrK k h it a i) (e : ∀ o, h.get? it = some o → h'.get? it = some o) : ItrK k h' it a i := by
  cases k with
  | true => exact Heap.IsTupleIter.at (show h.IsTupleIter it a i from x) e
  | false => exact Heap.IsListIter.at (show h.IsListIter it a i from x) e
theorem ItrK.get {k : Bool} {h : Heap} {it a : Addr} {i : Nat} (x : ItrK k h it a i) : ∃ o, h.get? it = some o ∧ o.data = .fields #[.ref a, .int i 0] := by
  cases k with
  | true => obtain ⟨o, e, _, d⟩ := (show h.IsTupleIter it a i from x); exact ⟨o, e, d⟩
  | false => obtain ⟨o, e, _, d⟩ := (show h.IsListIter it a i from x); exact ⟨o, e, d⟩
theorem oK_itr {k : Bool} {h : Heap} {it a : Addr} (e : h.get? it = some (oK k a)) : ItrK k h it a 0 := by
  cases k with
  | true => exact ⟨_, e, rfl, rfl⟩
  | false => exact ⟨_, e, rfl, rfl⟩
theorem begK (k : Bool) (a : Addr) (its : Array Value) : Begins (.ref a) (oK k a) fun h => IsK k h a its := by
  cases k with
  | true => exact begins_tuple a its
  | false => exact begins_list a its
theorem drawsK {prog : Program} {w : World} {A : Around} (k : Bool) (hh : A.handled = none) (it a : Addr) (hne : a ≠ it) (its : Array Value) : Draws prog w A it [it, a] its.size (fun i v => its[i]? = some v) (fun i h => ItrK k h it a i ∧ IsK k h a its) := by
  cases k with
  | true => exact Draws.tuple hh it a hne its
  | false => exact Draws.list hh it a hne its
section
variable {X : Cx} {pins : List (Addr × Obj)} {σ : L2.St} {H : Hp} {s : Shared}
theorem sqK {k : Bool} {a : Addr} {xs : List V} (I : Inv X pins σ H s) (h : SqK k X.K H a xs) : ∃ its : List Value, Vals xs its ∧ IsK k s.heap a its.toArray ∧ ∃ o, s.heap.get? a = some o := by
  cases k with
  | true =>
    obtain ⟨its, rv, p, _⟩ := I.tuple (show SqT X.K H a xs from h)
    obtain ⟨o, e, _⟩ := id p
    exact ⟨its, rv, p, o, e⟩
  | false =>
    obtain ⟨its, rv, p, _⟩ := I.list (show SqL X.K H a xs from h)
    obtain ⟨o, _, e, _⟩ := id p
    exact ⟨its, rv, p.isList, o, e⟩
theorem sqK_inj {k : Bool} {a : Addr} {xs ys : List V} (I : Inv X pins σ H s) (h : SqK k X.K H a xs) (h' : SqK k X.K H a ys) : xs = ys := by
  cases k with
  | true => exact I.tuple_inj h h'
  | false => exact I.list_inj h h'
end
/-- what is walked is tracked: it is none of the iterator's own cells -/
def ItzK (ka kb : Bool) (K : PySem.W.Frag) (a b : Addr) : It :=
  ⟨fun i H => ∃ (xs ys : List V) (x y : V), SqK ka K H a xs ∧ SqK kb K H b ys ∧ xs[i]? = some x ∧ ys[i]? = some y,
    fun i H v H' => ∃ T x y, v = .ref T ∧ H T = none ∧ H' = upd H T (.tup [x, y]) ∧ (∀ xs, SqK ka K H a xs → xs[i]? = some x) ∧ ∀ ys, SqK kb K H b ys → ys[i]? = some y,
    fun i H => ∃ xs ys : List V, SqK ka K H a xs ∧ SqK kb K H b ys ∧ i ≤ xs.length ∧ i ≤ ys.length ∧ (xs.length = i ∨ ys.length = i)⟩
theorem sepK {z TI TO i1 i2 a b : Addr} (D : ZipApart z TI TO i1 i2 a b) : ZipSep2 z TI TO i1 i2 [i1, a] [i2, b] where
  TIz := D.TIz
  TOz := D.TOz
  TITO := D.TITO
  TIi1 := D.TIi1
  mem1 := by simp
  zf1 := by simp [Ne.symm D.i1z, Ne.symm D.l1z]
  Tf1 := by simp [D.TOi1, Ne.symm D.l1TO]
  TIi2 := D.TIi2
  mem2 := by simp
  zf2 := by simp [Ne.symm D.i2z, Ne.symm D.l2z]
  Tf2 := by simp [D.TOi2, Ne.symm D.l2TO]
  sep1_2 := by simp [D.i12, Ne.symm D.l2i1]
  sep2_1 := by simp [Ne.symm D.i12, Ne.symm D.l1i2]
theorem turn_zipK {P : Program} {w : World} {K : PySem.W.Frag} {ka kb : Bool} {elts : List Expr} {kk : Nat} {tpos : Pos} {a b z TI TO i1 i2 : Addr} (D : ZipApart z TI TO i1 i2 a b) :
    Turn P w K (.Tuple elts kk tpos) (ItzK ka kb K a b) [z, TI, TO, i1, i2] z (fun i h => IsZip h z TI TO .none ∧ IsPair h TI (.ref i1) (.ref i2) ∧ (∃ x y, IsPair h TO x y) ∧ ItrK ka h i1 a i ∧ ItrK kb h i2 b i) where
  mem := by simp
  obj := fun i h st c hc => by
    obtain ⟨hz, hTI, ⟨x, y, hTO⟩, h1, h2⟩ := st
    obtain ⟨o1, e1, d1⟩ := h1.get
    obtain ⟨o2, e2, d2⟩ := h2.get
    have e' : c = z ∨ c = TI ∨ c = TO ∨ c = i1 ∨ c = i2 := by simpa using hc
    rcases e' with q | q | q | q | q
    · rw [q]; exact ⟨_, hz, fun v q => nomatch q⟩
    · rw [q]; exact ⟨_, hTI, fun v q => nomatch q⟩
    · rw [q]; exact ⟨_, hTO, fun v q => nomatch q⟩
    · rw [q]; exact ⟨o1, e1, fun v q => by rw [d1] at q; cases q⟩
    · rw [q]; exact ⟨o2, e2, fun v q => by rw [d2] at q; cases q⟩
  keep := fun i h h' st k => by
    obtain ⟨hz, hTI, ⟨x, y, hTO⟩, h1, h2⟩ := st
    exact ⟨k z (by simp) _ hz, k TI (by simp) _ hTI, ⟨x, y, k TO (by simp) _ hTO⟩, h1.at fun o q => k i1 (by simp) o q, h2.at fun o q => k i2 (by simp) o q⟩
  item := by
    intro X hP hw hK hc i pins s σ H E I hf st hg
    subst hP hw hK
    obtain ⟨hz, hTI, ⟨x0, y0, hTO⟩, h1, h2⟩ := st
    obtain ⟨xs, ys, x, y, hqx, hqy, hx, hy⟩ := hg
    obtain ⟨its, rv, p, _⟩ := sqK I hqx
    obtain ⟨its2, rv2, p2, _⟩ := sqK I hqy
    obtain ⟨u, hu, ru⟩ := rv.get hx
    obtain ⟨u2, hu2, ru2⟩ := rv2.get hy
    have hzl : z < s.heap.objs.size := Heap.lt_size hz
    have hh : X.A.in1.handled = none := I.ok.hd hc
    have D1 := drawsK (prog := X.prog) (w := X.w) ka hh i1 a D.l1i1 its.toArray
    have D2 := drawsK (prog := X.prog) (w := X.w) kb hh i2 b D.l2i2 its2.toArray
    have n1 : i < its.toArray.size := by rw [List.size_toArray]; exact (List.getElem?_eq_some_iff.mp hu).1
    have n2 : i < its2.toArray.size := by rw [List.size_toArray]; exact (List.getElem?_eq_some_iff.mp hu2).1
    refine wpAny_pyNext_zipD2_item (sepK D) D1 D2 hz hTI hTO ⟨h1, p⟩ ⟨h2, p2⟩ n1 n2 fun x1 x2 h' tk q1 q2 z' TO' st1' st2' hT hsz hk => ?_
    have ex1 : x1 = u := by
      have q1' : its.toArray[i]? = some x1 := q1
      have hu' : its.toArray[i]? = some u := by simpa using hu
      rw [hu'] at q1'
      exact (Option.some.inj q1').symm
    have ex2 : x2 = u2 := by
      have q2' : its2.toArray[i]? = some x2 := q2
      have hu' : its2.toArray[i]? = some u2 := by simpa using hu2
      rw [hu'] at q2'
      exact (Option.some.inj q2').symm
    subst ex1 ex2
    obtain ⟨h1', _⟩ := st1'
    obtain ⟨h2', _⟩ := st2'
    refine ⟨_, rfl, wpAny_letOwnedTupleGo_zip (s := { s with heap := h', toks := tk }) z' fun h'' z'' sb => ?_⟩
    have hT2 : h''.get? s.heap.objs.size = some { cls := .type "tuple", data := .seq #[x1, x2] } := (sb.2 _ (Nat.ne_of_gt hzl)).trans hT
    have new : ObjOk X.prog X.w (upd H s.heap.objs.size (.tup [x, y])) h'' s.heap.objs.size (.tup [x, y]) :=
      ⟨by show 2 ≤ sizeLine; decide, [x1, x2], .cons ru (.cons ru2 .nil), ⟨_, hT2, rfl, _, rfl⟩⟩
    have I1 : Inv X pins σ (upd H s.heap.objs.size (.tup [x, y])) { s with heap := h'', toks := tk } :=
      I.turnedNew (t' := tk) (ch := [z, TI, TO, i1, i2]) (fun c o hb q => (sb.2 c (fun q' => hb (by simp [q']))).trans (hk c o (fun q' => hb (by simp [q'])) (fun q' => hb (by simp [q'])) (fun q' => hb (by simp [q'])) (fun q' => hb (by simp [q'])) q)) hf (Nat.le_refl _) new
    refine ⟨.ref s.heap.objs.size, _, I1, rfl, ⟨_, x, y, rfl, I.hok.fresh (Nat.le_refl _), rfl, fun l hl => by rw [sqK_inj I hl hqx]; exact hx, fun l hl => by rw [sqK_inj I hl hqy]; exact hy⟩, ⟨z'', ?_, ⟨x1, x2, ?_⟩, ?_, ?_⟩, fun c hcm => ?_⟩
    · exact (sb.2 _ D.TIz).trans (hk _ _ D.TIz D.TITO D.TIi1 D.TIi2 hTI)
    · exact (sb.2 _ D.TOz).trans TO'
    · exact h1'.at fun o q => (sb.2 _ D.i1z).trans q
    · exact h2'.at fun o q => (sb.2 _ D.i2z).trans q
    · have hlt : c < s.heap.objs.size := by
        have e' : c = z ∨ c = TI ∨ c = TO ∨ c = i1 ∨ c = i2 := by simpa using hcm
        rcases e' with q | q | q | q | q
        · rw [q]; exact hzl
        · rw [q]; exact Heap.lt_size hTI
        · rw [q]; exact Heap.lt_size hTO
        · rw [q]; obtain ⟨_, e1, _⟩ := h1.get; exact Heap.lt_size e1
        · rw [q]; obtain ⟨_, e2, _⟩ := h2.get; exact Heap.lt_size e2
      rw [upd_ne (Nat.ne_of_lt hlt)]
      exact (hf c hcm).1
  done := by
    intro X hP hw hK hc i pins s σ H E I hf st hg
    subst hP hw hK
    obtain ⟨hz, hTI, ⟨x0, y0, hTO⟩, h1, h2⟩ := st
    obtain ⟨xs, ys, hqx, hqy, le1, le2, hend⟩ := hg
    obtain ⟨its, rv, p, _⟩ := sqK I hqx
    obtain ⟨its2, rv2, p2, _⟩ := sqK I hqy
    have l1 := rv.length
    have l2 := rv2.length
    have hh : X.A.in1.handled = none := I.ok.hd hc
    have D1 := drawsK (prog := X.prog) (w := X.w) ka hh i1 a D.l1i1 its.toArray
    have D2 := drawsK (prog := X.prog) (w := X.w) kb hh i2 b D.l2i2 its2.toArray
    refine wpAny_pyNext_zipD2_end (sepK D) D1 D2 hz hTI hTO ⟨h1, p⟩ ⟨h2, p2⟩ (by rw [List.size_toArray]; omega) (by rw [List.size_toArray]; omega) (by rw [List.size_toArray, List.size_toArray]; omega) fun h' tk hk => ?_
    exact ⟨rfl, I.turnedL (t' := tk) (ch := [z, TI, TO, i1, i2]) (fun c o hb q =>
      hk c o (fun q' => hb (by simp [q'])) (fun q' => hb (by simp [q'])) (fun q' => hb (by simp [q'])) (fun q' => hb (by simp [q'])) q) hf⟩
  self := fun A i s Q E st h => wpAny_pyIter_zip st.1 h
def iZipK (K : PySem.W.Frag) (ta : TA) : TI := fun σ H R => ta σ H fun vs H1 => ∃ ka kb a b xs ys, vs = [.ref a, .ref b] ∧ SqK ka K H1 a xs ∧ SqK kb K H1 b ys ∧ R (ItzK ka kb K a b) H1
theorem pi_zipK {X : Cx} {e e2 : Expr} {ta : TA} {p pos tpos : Pos} {elts : List Expr} {kk : Nat} (hg : Gl X "zip") (hm : X.mg "zip" = none) (ha : PA X [e, e2] ta)
    (hs : starEach [e, e2] X.env = (false, eval e X.env) :: starEach [e2] X.env := by rfl) (hpl : (backTo pos (starEach [e2] X.env)).any (·.1) = false := by rfl) :
    PI X (.Tuple elts kk tpos) (.Call (.Name "zip" p) [e, e2] [] pos) (iZipK X.K ta) := by
  refine ⟨fun pins s σ H R I h => ?_⟩
  refine PyProof.Rows.Call_ (ld_blt I hg hm PyProof.Rows.boot_zip (PyProof.Rows.callWith_type1 (thn (ha.run pos pins s σ H _ I h) fun us s1 ⟨vs, H1, I1, r1, q1⟩ => ?_) hs hpl))
  obtain ⟨ka, kb, a, b, xs, ys, ex, hqx, hqy, q⟩ := q1
  subst ex
  cases r1 with
  | cons r rr =>
    cases rr with
    | cons r' rr =>
      cases rr
      cases r
      cases r'
      have fresh5 : ∀ c, c ∈ [s1.heap.objs.size + 4, s1.heap.objs.size + 2, s1.heap.objs.size + 3, s1.heap.objs.size, s1.heap.objs.size + 1] → FpOk X pins H1 c := fun c hcm => by
        have e' : c = s1.heap.objs.size + 4 ∨ c = s1.heap.objs.size + 2 ∨ c = s1.heap.objs.size + 3 ∨ c = s1.heap.objs.size ∨ c = s1.heap.objs.size + 1 := by simpa using hcm
        have hle : s1.heap.objs.size ≤ c := by
          rcases e' with z | z | z | z | z
          · rw [z]; exact Nat.le_add_right _ _
          · rw [z]; exact Nat.le_add_right _ _
          · rw [z]; exact Nat.le_add_right _ _
          · rw [z]; exact Nat.le_refl _
          · rw [z]; exact Nat.le_add_right _ _
        exact I1.fpOk hle (I1.hok.fresh hle)
      obtain ⟨its, rv, p1, o1, ho1⟩ := sqK I1 hqx
      obtain ⟨its2, rv2, p2, o2, ho2⟩ := sqK I1 hqy
      refine zip_begins2 (begK ka a its.toArray) (begK kb b its2.toArray) p1 p2 fun h' hz hTI hTO h1 h2 hsz hk => wpAny_pyIter_zip hz ?_
      have I2 : Inv X pins σ H1 { s1 with heap := h' } := I1.kept (t' := s1.toks) hk
      exact ⟨s1.heap.objs.size + 4, [s1.heap.objs.size + 4, s1.heap.objs.size + 2, s1.heap.objs.size + 3, s1.heap.objs.size, s1.heap.objs.size + 1], _, _, H1, rfl, I2, turn_zipK (PySem.W.ktu_apart s1.heap.objs.size a b (Heap.lt_size ho1) (Heap.lt_size ho2)), ⟨hz, hTI, ⟨_, _, hTO⟩, oK_itr h1, oK_itr h2⟩, fresh5, q⟩

def IteK (k : Bool) (K : PySem.W.Frag) (a : Addr) : It :=
  ⟨fun i H => ∃ (xs : List V) (x : V), SqK k K H a xs ∧ xs[i]? = some x, fun i H v H' => ∃ T x, v = .ref T ∧ H T = none ∧ H' = upd H T (.tup [.int (i : Nat), x]) ∧ ∀ xs, SqK k K H a xs → xs[i]? = some x, fun i H => ∃ xs : List V, SqK k K H a xs ∧ xs.length = i⟩
theorem turn_enumK {P : Program} {w : World} {K : PySem.W.Frag} {k : Bool} {elts : List Expr} {kk : Nat} {tpos : Pos} (a e it : Addr) (ae : a ≠ e) (ai : a ≠ it) :
    Turn P w K (.Tuple elts kk tpos) (IteK k K a) [e, it] e (fun i h => (∃ old, IsEnum h e it ((i : Nat) : Int) old) ∧ ItrK k h it a i ∧ e ≠ it) where
  mem := by simp
  obj := fun i h st b hb => by
    obtain ⟨⟨old, he⟩, hi, _⟩ := st
    obtain ⟨o, ho, hd⟩ := hi.get
    have e' : b = e ∨ b = it := by simpa using hb
    rcases e' with z | z
    · rw [z]; exact ⟨_, he, fun v q => nomatch q⟩
    · rw [z]; exact ⟨o, ho, fun v q => by rw [hd] at q; cases q⟩
  keep := fun i h h' st k => let ⟨⟨old, he⟩, hi, hne⟩ := st; ⟨⟨old, k e (by simp) _ he⟩, hi.at fun o q => k it (by simp) o q, hne⟩
  item := by
    intro X hP hw hK hc i pins s σ H E I hf st hg
    subst hP hw hK
    obtain ⟨⟨old, he⟩, hit, hne⟩ := st
    obtain ⟨xs, x, hq, hx⟩ := hg
    obtain ⟨its, rv, p, _⟩ := sqK I hq
    obtain ⟨u, hu, ru⟩ := rv.get hx
    have hel : e < s.heap.objs.size := Heap.lt_size he
    have hil : it < s.heap.objs.size := by obtain ⟨_, q, _⟩ := hit.get; exact Heap.lt_size q
    have hh : X.A.in1.handled = none := I.ok.hd hc
    have D1 := drawsK (prog := X.prog) (w := X.w) k hh it a ai its.toArray
    have n1 : i < its.toArray.size := by rw [List.size_toArray]; exact (List.getElem?_eq_some_iff.mp hu).1
    refine wpAny_pyNext_enum_itemD D1 he ⟨hit, p⟩ n1 hne (by simp [hne, Ne.symm ae]) fun x1 h' tk q1 ho st' hT hsz hk => ?_
    have ex1 : x1 = u := by
      have q1' : its.toArray[i]? = some x1 := q1
      have hu' : its.toArray[i]? = some u := by simpa using hu
      rw [hu'] at q1'
      exact (Option.some.inj q1').symm
    subst ex1
    obtain ⟨hit', _⟩ := st'
    refine ⟨_, rfl, wpAny_letOwnedTupleGo_enum (s := { s with heap := h', toks := tk + 1 }) ho fun h'' he' sb => ?_⟩
    have hT2 : h''.get? s.heap.objs.size = some { cls := .type "tuple", data := .seq #[.int i tk, x1] } := (sb.2 _ (Nat.ne_of_gt hel)).trans hT
    have new : ObjOk X.prog X.w (upd H s.heap.objs.size (.tup [.int (i : Nat), x])) h'' s.heap.objs.size (.tup [.int (i : Nat), x]) :=
      ⟨by show 2 ≤ sizeLine; decide, [.int i tk, x1], .cons ⟨_, rfl⟩ (.cons ru .nil), ⟨_, hT2, rfl, _, rfl⟩⟩
    have I1 : Inv X pins σ (upd H s.heap.objs.size (.tup [.int (i : Nat), x])) { s with heap := h'', toks := tk + 1 } :=
      I.turnedNew (ch := [e, it]) (fun b ob hb q => (sb.2 b (fun z => hb (by simp [z]))).trans (hk b ob (fun z => hb (by simp [z])) (fun z => hb (by simp [z])) q)) hf (Nat.le_refl _) new
    refine ⟨.ref s.heap.objs.size, _, I1, rfl, ⟨_, x, rfl, I.hok.fresh (Nat.le_refl _), rfl, fun ys hy => by rw [sqK_inj I hy hq]; exact hx⟩, ⟨⟨x1, ?_⟩, hit'.at fun o q => (sb.2 it (Ne.symm hne)).trans q, hne⟩, fun b hb => ?_⟩
    · have e1 : ((i + 1 : Nat) : Int) = (i : Int) + 1 := by omega
      rw [e1]; exact he'
    · have hb' : b < s.heap.objs.size := by
        have e' : b = e ∨ b = it := by simpa using hb
        rcases e' with z | z
        · rw [z]; exact hel
        · rw [z]; exact hil
      rw [upd_ne (Nat.ne_of_lt hb')]
      exact (hf b hb).1
  done := by
    intro X hP hw hK hc i pins s σ H E I hf st hg
    subst hP hw hK
    obtain ⟨⟨old, he⟩, hit, hne⟩ := st
    obtain ⟨xs, hq, hx⟩ := hg
    obtain ⟨its, rv, p, _⟩ := sqK I hq
    obtain ⟨f0, f1, f2, f3, f4, f5⟩ := hf it (by simp)
    have hl := rv.length
    have hh : X.A.in1.handled = none := I.ok.hd hc
    have D1 := drawsK (prog := X.prog) (w := X.w) k hh it a ai its.toArray
    have hs : i = its.toArray.size := by rw [List.size_toArray]; omega
    exact wpAny_pyNext_enum_endD D1 he (by rw [← hs]; exact ⟨hit, p⟩) fun h' eb => ⟨rfl, I.turned (t' := s.toks) (fun b o hb q => eb b o hb q) f0 f1 f3 f4 f5⟩
  self := fun A i s Q E st h => let ⟨⟨_, he⟩, _⟩ := st; wpAny_pyIter_enum he h
def iEnumK (K : PySem.W.Frag) (ta : TA) : TI := fun σ H R => ta σ H fun vs H1 => ∃ k a xs, vs = [.ref a] ∧ SqK k K H1 a xs ∧ R (IteK k K a) H1
theorem pi_enumK {X : Cx} {e : Expr} {ta : TA} {p pos tpos : Pos} {elts : List Expr} {kk : Nat} (hg : Gl X "enumerate") (hm : X.mg "enumerate" = none) (ha : PA X [e] ta) (hs : starEach [e] X.env = [(false, eval e X.env)] := by rfl) :
    PI X (.Tuple elts kk tpos) (.Call (.Name "enumerate" p) [e] [] pos) (iEnumK X.K ta) := by
  refine ⟨fun pins s σ H R I h => ?_⟩
  refine PyProof.Rows.Call_ (ld_blt I hg hm boot_enumerate (PyProof.Rows.callWith_type1 (thn (ha.run pos pins s σ H _ I h) fun us s1 ⟨vs, H1, I1, r1, q1⟩ => ?_) hs rfl))
  obtain ⟨k, a, xs, ex, hq, q⟩ := q1
  subst ex
  cases r1 with
  | cons r rr =>
    cases rr
    cases r
    obtain ⟨its, rv, p', o, ho⟩ := sqK I1 hq
    refine mi_enum_begins (begK k a its.toArray) p' fun h' he hit hsz hk => wpAny_pyIter_enum he ?_
    have I2 : Inv X pins σ H1 { s1 with heap := h' } := I1.kept (t' := s1.toks) hk
    have la : a < s1.heap.objs.size := Heap.lt_size ho
    have ne1 : a ≠ s1.heap.objs.size + 1 := Nat.ne_of_lt (Nat.lt_succ_of_lt la)
    have ne2 : a ≠ s1.heap.objs.size := Nat.ne_of_lt la
    refine ⟨s1.heap.objs.size + 1, [s1.heap.objs.size + 1, s1.heap.objs.size], _, _, H1, rfl, I2, turn_enumK a (s1.heap.objs.size + 1) s1.heap.objs.size ne1 ne2, ⟨⟨.none, he⟩, oK_itr hit, Nat.succ_ne_self _⟩, fun b hb => ?_, q⟩
    have e' : b = s1.heap.objs.size + 1 ∨ b = s1.heap.objs.size := by simpa using hb
    have hle : s1.heap.objs.size ≤ b := by
      rcases e' with z | z
      · rw [z]; exact Nat.le_add_right _ _
      · rw [z]; exact Nat.le_refl _
    exact I1.fpOk hle (I1.hok.fresh hle)

def iSeq (K : PySem.W.Frag) (tl : TE) : TI := fun σ H R => tl σ H fun x H1 => ∃ a, x = .ref a ∧ (((∃ xs, SqL K H1 a xs) ∧ R (Itl K a) H1) ∨ ((∃ xs, SqT K H1 a xs) ∧ R (Itt K a) H1))
theorem pi_seq {X : Cx} {tg l : Expr} {tl : TE} (hl : PE X l tl) : PI X tg l (iSeq X.K tl) := by
  refine ⟨fun pins s σ H R I h => ?_⟩
  refine thn (hl.run pins s σ H _ I h) fun v s1 ⟨x, H1, I1, r1, q1⟩ => ?_
  obtain ⟨a, e, ⟨⟨xs, hq⟩, q⟩ | ⟨⟨xs, hq⟩, q⟩⟩ := q1
  · subst e
    cases r1
    obtain ⟨its, rv, p, hz⟩ := I1.list hq
    refine wpAny_pyIter_list p.isList ?_
    refine ⟨s1.heap.objs.size, [s1.heap.objs.size], _, _, H1, rfl, I1.kept (t' := s1.toks) fun b o e => Heap.get?_push_of_some _ e, turn_list a _, ⟨_, Heap.get?_push_size _ rfl, rfl, rfl⟩, fun b hb => ?_, q⟩
    have e : b = s1.heap.objs.size := by simpa using hb
    subst e
    exact I1.fpOk (Nat.le_refl _) (I1.hok.fresh (Nat.le_refl _))
  · subst e
    cases r1
    obtain ⟨its, rv, p, hz⟩ := I1.tuple hq
    refine wpAny_pyIter_tuple (show s1.heap.IsTuple a its.toArray from p) ?_
    refine ⟨s1.heap.objs.size, [s1.heap.objs.size], _, _, H1, rfl, I1.kept (t' := s1.toks) fun b o e => Heap.get?_push_of_some _ e, turn_tuple a _, ⟨_, Heap.get?_push_size _ rfl, rfl, rfl⟩, fun b hb => ?_, q⟩
    have e : b = s1.heap.objs.size := by simpa using hb
    subst e
    exact I1.fpOk (Nat.le_refl _) (I1.hok.fresh (Nat.le_refl _))

def seqD : D → Option (List D)
  | .list xs => some xs
  | .tuple xs => some xs
  | _ => none
theorem dn_seq {K : PySem.W.Frag} {F : Hp} {v : V} {d : D} {ds : List D} (h : Dn K F v d) (e : seqD d = some ds) : ∃ k a vs, v = .ref a ∧ (∀ H, Same F H → SqK k K H a vs) ∧ DnAll K F vs ds := by
  cases h <;> simp only [seqD, reduceCtorEq, Option.some.injEq] at e
  · rename_i h1 h2
    subst e
    exact ⟨false, _, _, rfl, fun H s => SqL.of (s _ _ h1), h2⟩
  · rename_i h1 h2
    subst e
    exact ⟨true, _, _, rfl, fun H s => SqT.of (s _ _ h1), h2⟩
theorem src_enumK {K : PySem.W.Frag} {F : Hp} {k : Bool} {a : Addr} {xs : List V} {ds : List D} (h : ∀ H, Same F H → SqK k K H a xs) (hx : DnAll K F xs ds) : Src K F (IteK k K a) (enumD ds) where
  goes := fun i H hi e => by
    rw [enumD_len, ← dna_len hx] at hi
    exact ⟨xs, xs[i], h H e, by simp [hi]⟩
  stops := fun H e => ⟨xs, h H e, by rw [enumD_len, dna_len hx]⟩
  yld := fun i H x H' hi e y => by
    obtain ⟨T, z, h1, h2, h3, h4⟩ := y
    obtain ⟨d, q1, q2⟩ := dna_getV hx (h4 xs (h H e))
    exact ⟨_, enumD_get q1, .inr (.inl ⟨T, _, _, h1, h2, h3, rfl, .cons (.int _) (.cons q2 .nil)⟩)⟩
theorem src_zipK {K : PySem.W.Frag} {F : Hp} {ka kb : Bool} {a b : Addr} {xs ys : List V} {ds es : List D} (h : ∀ H, Same F H → SqK ka K H a xs) (hx : DnAll K F xs ds) (h' : ∀ H, Same F H → SqK kb K H b ys) (hy : DnAll K F ys es) : Src K F (ItzK ka kb K a b) (zipD ds es) where
  goes := fun i H hi e => by
    rw [zipD_len, ← dna_len hx, ← dna_len hy] at hi
    have i1 : i < xs.length := by omega
    have i2 : i < ys.length := by omega
    exact ⟨xs, ys, xs[i], ys[i], h H e, h' H e, by simp [i1], by simp [i2]⟩
  stops := fun H e => ⟨xs, ys, h H e, h' H e, by rw [zipD_len, dna_len hx, dna_len hy]; omega⟩
  yld := fun i H x H' hi e y => by
    obtain ⟨T, z, u, h1, h2, h3, h4, h5⟩ := y
    obtain ⟨d, q1, q2⟩ := dna_getV hx (h4 xs (h H e))
    obtain ⟨d', q1', q2'⟩ := dna_getV hy (h5 ys (h' H e))
    exact ⟨_, zipD_get q1 q1', .inr (.inl ⟨T, _, _, h1, h2, h3, rfl, .cons q2 (.cons q2' .nil)⟩)⟩
section
variable {X : Cx} {g : Gh} {W : WX} {a b tg : Expr} {pos p : Pos} {f : Rho → Res D} {ks : Rho → Res (List D)}
def mSeqI (f : Rho → Res D) : Rho → Res (List D) := fun ρ => (f ρ).bind fun x ρ1 => ofOpt (seqD x) ρ1
theorem m_seqI (ha : PE X a (tE .pure g W f)) (hK : X.K = g.K := by rfl) : PI X tg a (tI g W (mSeqI f)) := pi_mono (pi_seq ha) fun σ H R ⟨F, ρ, ok, h⟩ => by
  refine ⟨F, ρ, ok, Post.bind h fun d ρ1 x F1 H1 st ok1 hx h1 => ?_⟩
  rw [hK]
  cases hx with
  | lst e t => exact ⟨_, rfl, .inl ⟨⟨_, .of (ok1.sub _ _ e)⟩, h1.done ok1 (src_list e t)⟩⟩
  | tup e t => exact ⟨_, rfl, .inr ⟨⟨_, .of (ok1.sub _ _ e)⟩, h1.done ok1 (src_tup e t)⟩⟩
  | _ => exact h1.elim
def enumA : List D → Option (List D)
  | [x] => (seqD x).map enumD
  | _ => none
theorem m_enum {elts : List Expr} {kk : Nat} {tpos : Pos} (hm : X.mg "enumerate" = none) (ha : PA X [a] (tA g W ks)) (hK : X.K = g.K := by rfl) (hg : Gl X "enumerate" := by rfl) (hs : starEach [a] X.env = [(false, eval a X.env)] := by rfl) :
    PI X (.Tuple elts kk tpos) (.Call (.Name "enumerate" p) [a] [] pos) (tI g W (mItA enumA ks)) :=
  pi_mono (pi_enumK hg hm ha hs) fun σ H R ⟨F, ρ, ok, h⟩ => by
    refine ⟨F, ρ, ok, Post.bind h fun ds ρ1 xs F1 H1 st ok1 hx h1 => ?_⟩
    rw [hK]
    unfold enumA at h1
    split at h1
    · rename_i x
      cases hx with
      | cons q1 t1 =>
        cases t1
        cases q : seqD x with
        | none => rw [q] at h1; exact h1.elim
        | some es =>
          rw [q] at h1
          obtain ⟨k, a', vs, rfl, e1, e2⟩ := dn_seq q1 q
          exact ⟨k, a', vs, rfl, e1 _ ok1.sub, h1.done ok1 (src_enumK e1 e2)⟩
    · exact h1.elim
def zipK : List D → Option (List D)
  | [x, y] => (seqD x).bind fun xs => (seqD y).map fun ys => zipD xs ys
  | _ => none
theorem m_zipK {elts : List Expr} {kk : Nat} {tpos : Pos} (hm : X.mg "zip" = none) (ha : PA X [a, b] (tA g W ks)) (hK : X.K = g.K := by rfl) (hg : Gl X "zip" := by rfl) (hs : starEach [a, b] X.env = (false, eval a X.env) :: starEach [b] X.env := by rfl)
    (hpl : (backTo pos (starEach [b] X.env)).any (·.1) = false := by rfl) : PI X (.Tuple elts kk tpos) (.Call (.Name "zip" p) [a, b] [] pos) (tI g W (mItA zipK ks)) :=
  pi_mono (pi_zipK hg hm ha hs hpl) fun σ H R ⟨F, ρ, ok, h⟩ => by
    refine ⟨F, ρ, ok, Post.bind h fun ds ρ1 xs F1 H1 st ok1 hx h1 => ?_⟩
    rw [hK]
    unfold zipK at h1
    split at h1
    · rename_i x y
      cases hx with
      | cons q1 t1 =>
        cases t1 with
        | cons q2 t2 =>
          cases t2
          cases qx : seqD x with
          | none => rw [qx] at h1; exact h1.elim
          | some es =>
            cases qy : seqD y with
            | none => rw [qx, qy] at h1; exact h1.elim
            | some es2 =>
              rw [qx, qy] at h1
              obtain ⟨k, a', vs, rfl, e1, e2⟩ := dn_seq q1 qx
              obtain ⟨k', b', vs', rfl, e1', e2'⟩ := dn_seq q2 qy
              exact ⟨k, k', a', b', vs, vs', rfl, e1 _ ok1.sub, e1' _ ok1.sub, h1.done ok1 (src_zipK e1 e2 e1' e2')⟩
    · exact h1.elim
end
end Mi
set_option Elab.async false
set_option linter.all false
set_option maxRecDepth 100000
set_option maxHeartbeats 4000000
namespace Mi
open PySem PySem.Spec L2
open PyProof.Rows hiding St

theorem tuple_mul1 (l : Addr) (items : Array Value) (n : Nat) (dd : Option Addr) (sl : Array (Option Value)) (u : Tok) :
    Meets (Builtin.«tuple.__mul__» ⟨[.ref l, .int 1 u], []⟩) (fun _ R s => s.heap.get? l = some { cls := .type "tuple", dict := dd, data := .seq items n, slots := sl } ∧
      R (.ok (.ret (Value.ref l))) s) :=
  .of_wp fun prog w A R s h => by
    obtain ⟨hp, g, d, tk, os⟩ := s
    obtain ⟨hl, h⟩ := h
    have f1 := AutoSeq1.idx_int
    have c1 : (items.isEmpty || (1 : Int) == 1) = true := by simp
    have c0 : (decide ((1 : Int) < -(2 ^ 63)) || decide ((1 : Int) ≥ 2 ^ 63)) = false := by decide
    wp_walk using wpAny_loadPart' hl
    exact ⟨_, rfl, h⟩
section
variable {X : Cx} {g : Gh} {W : WX} {a b c : Expr} {pos p : Pos} {f k l : Rho → Res D} {m : RM}
def rRepT1 (K : PySem.W.Frag) : R2 := fun x y H Q => ∃ l xs, x = .ref l ∧ y = .int 1 ∧ SqT K H l xs ∧ Q (.ref l) H
theorem op_repT1 : OpR X (binaryOp .Mult) (rRepT1 X.K) := by
  intro pins s σ H x y v u Q I rx ry h
  obtain ⟨l, xs, rfl, rfl, hT, q⟩ := h
  cases rx
  obtain ⟨t, rfl⟩ := ry
  obtain ⟨its, r, ⟨⟨cls, dd, data, sl⟩, ho, hc, n, hd⟩, hs⟩ := I.tuple hT
  simp only at hc hd
  subst hc hd
  exact wpAny_binaryOp_repeat_ref (T := "tuple") (U := "int") (by decide) ⟨_, ho, rfl⟩ (fun s' => typeIs_int s' 1 t) noFill_tuple_mul F.fills_int_mul F.slot_int_rmul repeat_tuple F.slot_int_index.lookup
    (call_meets F.slot_int_rmul (typeIs_int s 1 t) F.entry_int_rmul (F.args_int_rmul_2 _ _) (int_rmul_tuple 1 t l its.toArray n dd sl)
      ⟨ho, rfl, ⟨_, ho, rfl⟩, call_meets F.slot_tuple_mul ⟨_, ho, rfl⟩ F.entry_tuple_mul (F.args_tuple_mul_2 _ _) (tuple_mul1 l its.toArray n dd sl t) ⟨ho, ⟨.ref l, H, I, rfl, q⟩⟩⟩)
def mulA : D → D → Option D
  | .int i, .int j => if (-(2 ^ 64) < i ∧ i < 2 ^ 64) ∨ (-(2 ^ 64) < j ∧ j < 2 ^ 64) then some (.int (i * j)) else none
  | .tuple xs, .int k => if (1 ≤ k ∧ k ≤ 1000) ∧ xs.length ≤ 1000 ∧ xs ≠ [] then some (.tuple (List.replicate k.toNat xs).flatten) else none
  | .list xs, .int k => if (0 ≤ k ∧ k ≤ 1000) ∧ xs.length ≤ 1000 then some (.list (List.replicate k.toNat xs).flatten) else none
  | _, _ => none
def rMul (K : PySem.W.Frag) : R2 := fun x y H Q => L2.rI CMul (fun i j => .int (i * j)) x y H Q ∨ rRepT1 K x y H Q ∨ rRepT K x y H Q ∨ rRep x y H Q
theorem op_mulA : OpR X (binaryOp .Mult) (rMul X.K) := op_mul.or (op_repT1.or (op_repT.or op_rep))
theorem dna_rep {K : PySem.W.Frag} {F : Hp} {vs : List V} {ds : List D} (h : DnAll K F vs ds) : ∀ n, DnAll K F (List.replicate n vs).flatten (List.replicate n ds).flatten
  | 0 => .nil
  | n + 1 => by
    rw [List.replicate_succ, List.replicate_succ, List.flatten_cons, List.flatten_cons]
    exact dna_app h (dna_rep h n)
theorem om_mulA : OpM g W .pure (rMul g.K) mulA := by
  intro σ F H ρ x y d e z Q ok hx hy ho h
  cases hx <;> cases hy <;> simp only [mulA, reduceCtorEq] at ho
  · split at ho
    · rename_i q
      cases ho
      exact .inl ⟨_, _, rfl, rfl, q, h.done ok (.int _)⟩
    · cases ho
  · rename_i a xs ds hx hxs k
    split at ho
    · rename_i q
      cases ho
      refine .inr (.inr (.inr ⟨_, k, xs, rfl, rfl, ok.sub _ _ hx, by omega, by omega, ?_, fun p hp => h.newLF ok (dna_rep hxs _) hp⟩))
      have e1 : xs.length ≤ 1000 := by rw [dna_len hxs]; exact q.2
      have e2 : xs.length * k.toNat ≤ 1000 * 1000 := Nat.mul_le_mul e1 (by omega)
      rw [sizeLine_eq]
      omega
    · cases ho
  · rename_i a xs ds hx hxs k
    split at ho
    · rename_i q
      cases ho
      by_cases k1 : k = 1
      · subst k1
        have e : (List.replicate (Int.toNat 1) ds).flatten = ds := by simp
        rw [e] at h
        exact .inr (.inl ⟨_, xs, rfl, rfl, .of (ok.sub _ _ hx), h.done ok (.tup hx hxs)⟩)
      · refine .inr (.inr (.inl ⟨_, k, xs, rfl, rfl, .of (ok.sub _ _ hx), ?_, by omega, by omega, by rw [dna_len hxs]; exact q.2.1, fun p hp => h.newT ok (dna_rep hxs _) hp⟩))
        intro e
        subst e
        cases hxs
        exact q.2.2 rfl
    · cases ho

def slAD : D → Option Int → Option Int → Option D
  | .list xs, lo, hi => some (.list (cut xs lo hi))
  | .tuple xs, lo, hi => some (.tuple (cut xs lo hi))
  | _, _, _ => none
theorem m_sl {lo hi : Option Expr} {tl th : Rho → Res (Option Int)} {p2 : Pos} (ha : PE X a (tE .pure g W f)) (hl : PO X lo (tO g W tl)) (hu : PO X hi (tO g W th)) (hK : X.K = g.K := by rfl) :
    PE X (.Subscript a (.Slice lo hi none p2) pos) (tE .pure g W (mSl slAD f tl th)) :=
  pe_mono (pe_slice (sl_list.or sl_tupA) ha hl hu) fun _ _ _ h => tSlM (fun σ F H ρ x d i j z Q ok hx ho h => by
    cases hx <;> simp only [slAD, reduceCtorEq] at ho
    · rename_i a xs ds hx hxs
      cases ho
      rw [hK]
      exact .inl ⟨_, _, rfl, .of (ok.sub _ _ hx), fun p hp => h.newLF ok (dna_cut _ _ hxs) hp⟩
    · rename_i a xs ds hx hxs
      cases ho
      rw [hK]
      refine .inr ⟨_, _, rfl, .of (ok.sub _ _ hx), fun e => ?_, fun _ p hp => h.newT ok (dna_cut _ _ hxs) hp⟩
      have e1 : cut ds i j = ds := by
        unfold cut
        rw [← dna_len hxs, e.1, e.2, List.drop_zero, Nat.sub_zero, dna_len hxs, List.take_length]
      rw [e1] at h
      exact h.done ok (.tup hx hxs)) h

inductive Ty4 where
  | int
  | bool
  | tuple
  | str
def Ty4.nm : Ty4 → String
  | .int => "int"
  | .bool => "bool"
  | .tuple => "tuple"
  | .str => "str"
def isiB : Ty4 → D → Option Bool
  | .int, .bool _ => some true
  | .int, .int _ => some true
  | .bool, .bool _ => some true
  | .tuple, .tuple _ => some true
  | .str, .str _ => some true
  | _, .dict _ => none
  | _, _ => some false
def isiD (t : Ty4) (d : D) : Option D := (isiB t d).map PyData.bool
theorem kit4 (t : Ty4) : kitB "NoneType" t.nm = some false ∧ kitB "bool" t.nm = isiB t (.bool true) ∧ kitB "int" t.nm = isiB t (.int 0) ∧ kitB "str" t.nm = isiB t (.str "") ∧ kitB "list" t.nm = some false ∧ kitB "tuple" t.nm = isiB t (.tuple []) := by
  cases t <;> decide +kernel
theorem dn_ty {K : PySem.W.Frag} {F H : Hp} (e : Same F H) {x : V} {d : D} {t : Ty4} {b : Bool} (h : Dn K F x d) (hb : isiB t d = some b) : ∃ n, TyX K H x (.type n) ∧ kitB n t.nm = some b := by
  obtain ⟨k1, k2, k3, k4, k5, k6⟩ := kit4 t
  cases h with
  | non => exact ⟨_, .base .non, by rw [k1, ← hb]; cases t <;> rfl⟩
  | bl q => exact ⟨_, .base (.bl q), by rw [k2, ← hb]; cases t <;> rfl⟩
  | int i => exact ⟨_, .base (.int i), by rw [k3, ← hb]; cases t <;> rfl⟩
  | str i => exact ⟨_, .base (.str i), by rw [k4, ← hb]; cases t <;> rfl⟩
  | lst h1 _ => exact ⟨_, .base (.lst (e _ _ h1)), by rw [k5, ← hb]; cases t <;> rfl⟩
  | tup h1 _ => exact ⟨_, .base (.tup (e _ _ h1)), by rw [k6, ← hb]; cases t <;> rfl⟩
  | _ => cases t <;> cases hb
theorem m_isi (t : Ty4) {y : Str} {p3 : Pos} (hm : X.mg "isinstance" = none) (hmt : X.mg y = none) (ha : PE X a (tE .pure g W f)) (hvt : bootBuiltins y = some (.type t.nm)) (hgt : Gl X y := by rfl) (hnt : y ≠ "__name__" := by decide) (hdt : (y == ("__debug__" : Str)) = false := by decide)
    (hK : X.K = g.K := by rfl) (hg : Gl X "isinstance" := by rfl) (he : starEach [a, .Name y p3] X.env = (false, eval a X.env) :: starEach [.Name y p3] X.env := by rfl) (he2 : starEach [.Name y p3] X.env = [(false, eval (.Name y p3) X.env)] := by rfl)
    (hpl : (backTo pos (starEach [.Name y p3] X.env)).any (·.1) = false := by rfl) : PE X (.Call (.Name "isinstance" p) [a, .Name y p3] [] pos) (tE .pure g W (mUn (isiD t) f)) :=
  pe_mono (pe_callB call_isi hg hm (by decide +kernel) (pa_cons ha (pa_cons (pe_bltn (v := .ty t.nm) hgt hmt hvt rfl hnt hdt) pa_nil he2) he) (by decide) (by decide) he hpl) fun σ H Q ⟨F, ρ, ok, h⟩ => by
    refine ⟨F, ρ, ok, Post.bind h fun d ρ1 x F1 H1 st ok1 hx h1 => ?_⟩
    cases q : isiB t d with
    | none => unfold isiD at h1; rw [q] at h1; exact h1.elim
    | some b =>
      unfold isiD at h1
      rw [q] at h1
      obtain ⟨n, e1, e2⟩ := dn_ty ok1.sub hx q
      refine ⟨x, .ty t.nm, .type n, .type t.nm, b, rfl, .ty _, by rw [hK]; exact e1, kit_ty e2, h1.done ok1 (.bl b)⟩

end
end Mi
set_option Elab.async false
set_option linter.all false
set_option maxRecDepth 100000
namespace Mi
open PySem PySem.Spec L2

def scrD (ns : List Int) : D := .dict [(.bool true, .list (ns.map PyData.int))]
def spEnd (K : Params → PySem.W.Frag) (w : World) : Sp := fun vs H Q _ => ∃ (a : Addr) (ns : List Int), vs = [.ref a] ∧ SqL (K w.params) H a (ns.map V.int) ∧ ns.length ≤ 63 ∧ ∀ H', Q (.bl true) H'
theorem walk_mi {l : PySem.W.OpenLaw} {k : Nat} {q : Program} {loose : List Str} {XP : (Str → Option Value) → Heap → Prop} {YP : World → Heap → Prop} {d : DefRec} {K : Params → PySem.W.Frag}
    (hn : l.most = some 63) (hdf : d.params.defaults = []) (hr : Room k callerA)
    (hY : ∀ (w : World) (h : Heap), YP w h → (K w.params).In h)
    {FL : List D → List D → FR} (hL : ∀ ns : List Int, ns.length ≤ 63 → FL [] [scrD ns] = .ok (.bool true) [])
    (F : ∀ (w : World) (mg : Str → Option Value) (fa : Addr) (h : Heap), (K w.params).In h → h.Ns mainGlobals mg → mg d.name = some (.ref fa) →
      ∃ fd : FuncData, (∀ (s : Shared) (u : Value), BindsTo s fd ⟨[u], []⟩ [("script", u)]) ∧
        ∀ base : Heap, FnOk l.prog w (K w.params) mg base (L2.CX l.prog w) k fa fd ["script"] (spM (K w.params) mg 1 0 .pure FL)) :
    PySem.W.WalkO q loose XP YP l.row.toRowW d [] (fun f vs => PySem.call f vs) := by
  refine L2.walk_of (n := 63) (k := k) (x := "script") (CX := fun w => L2.CX l.prog w) (sp := spEnd K) hn (by decide) hdf hr hY (fun w mg fa h KX G hmg => ?_) (fun w H a ns hl _ hS => ⟨a, ns, rfl, hS, hl, fun _ => rfl⟩) fun w H s e s' z => ?_
  · obtain ⟨fd, hb, hF⟩ := F w mg fa h KX G hmg
    refine ⟨fd, hb, fun base _ _ => (hF base).imp fun vs H Q E q => ?_⟩
    obtain ⟨a, ns, rfl, hS, hl, hq⟩ := q
    refine ⟨H, [], [], [.ref a], [scrD ns], rfl, rfl, rfl, List.nodup_nil, .nil, .cons (.scr hS) .nil, Same.refl H, ?_⟩
    rw [hL ns hl]
    intro v F' H' _ _ hv
    have hv : Dn (K w.params) F' v (.bool true) := hv
    cases hv with
    | bl => exact hq H'
  · obtain ⟨_, _, _, _, _, _, _, _, _, _, _, _, z⟩ := z
    exact z
end Mi
set_option Elab.async false
set_option linter.all false
set_option maxRecDepth 100000
namespace Mi
open PySem PySem.Spec L2
section
variable {α : Type} {ρ : Rho} {i : Nat} {d e : D}
@[simp] theorem e_mVar : mVar i ρ = (match ρ[i]? with | some (.fz d) => .ok d ρ | _ => .bad) := Eq.trans rfl rfl
@[simp] theorem e_get0 {α : Type} {a : α} {l : List α} : (a :: l)[0]? = some a := Eq.trans rfl rfl
@[simp] theorem e_mC : mC d ρ = .ok d ρ := Eq.trans rfl rfl
@[simp] theorem e_mBin {o : D → D → Option D} {f k : Rho → Res D} : mBin o f k ρ = (f ρ).bind fun x ρ1 => (k ρ1).bind fun y ρ2 => ofOpt (o x y) ρ2 := Eq.trans rfl rfl
@[simp] theorem e_mUn {o : D → Option D} {f : Rho → Res D} : mUn o f ρ = (f ρ).bind fun x ρ1 => ofOpt (o x) ρ1 := Eq.trans rfl rfl
@[simp] theorem e_mNil : mNil ρ = .ok [] ρ := Eq.trans rfl rfl
@[simp] theorem e_mCons {f : Rho → Res D} {k : Rho → Res (List D)} : mCons f k ρ = (f ρ).bind fun x ρ1 => (k ρ1).bind fun xs ρ2 => .ok (x :: xs) ρ2 := Eq.trans rfl rfl
@[simp] theorem e_mApp {o : List D → Option D} {f : Rho → Res (List D)} : mApp o f ρ = (f ρ).bind fun xs ρ1 => ofOpt (o xs) ρ1 := Eq.trans rfl rfl
@[simp] theorem e_asB (b : Bool) : asB (.bool b) = some b := Eq.trans rfl rfl
@[simp] theorem e_asI (b : Int) : asI (.int b) = some b := Eq.trans rfl rfl
@[simp] theorem e_mTest {f : Rho → Res D} : mTest f ρ = (f ρ).bind fun x ρ1 => ofOpt (asB x) ρ1 := Eq.trans rfl rfl
@[simp] theorem e_mAnd {f k : Rho → Res Bool} : mAnd f k ρ = (f ρ).bind fun b ρ1 => if b then k ρ1 else .ok false ρ1 := Eq.trans rfl rfl
@[simp] theorem e_mOr {f k : Rho → Res Bool} : mOr f k ρ = (f ρ).bind fun b ρ1 => if b then .ok true ρ1 else k ρ1 := Eq.trans rfl rfl
@[simp] theorem e_mNot {f : Rho → Res Bool} : mNot f ρ = (f ρ).bind fun b ρ1 => .ok (!b) ρ1 := Eq.trans rfl rfl
@[simp] theorem e_mIf {c : Rho → Res Bool} {f k : Rho → Res α} : mIf c f k ρ = (c ρ).bind fun b ρ1 => if b then f ρ1 else k ρ1 := Eq.trans rfl rfl
@[simp] theorem e_mAndV {f k : Rho → Res D} : mAndV f k ρ = (f ρ).bind fun x ρ1 => (ofOpt (asB x) ρ1).bind fun b ρ2 => if b then k ρ2 else .ok (.bool false) ρ2 := Eq.trans rfl rfl
@[simp] theorem e_mOrV {f k : Rho → Res D} : mOrV f k ρ = (f ρ).bind fun x ρ1 => (ofOpt (asB x) ρ1).bind fun b ρ2 => if b then .ok (.bool true) ρ2 else k ρ2 := Eq.trans rfl rfl
@[simp] theorem e_mNotV {f : Rho → Res D} : mNotV f ρ = (f ρ).bind fun x ρ1 => (ofOpt (asB x) ρ1).bind fun b ρ2 => .ok (.bool (!b)) ρ2 := Eq.trans rfl rfl
@[simp] theorem e_mLst {f : Rho → Res D} : mLst f ρ = (f ρ).bind fun x ρ1 => if isLst x then .ok x ρ1 else .bad := Eq.trans rfl rfl
@[simp] theorem e_isLst {ds : List D} : isLst (.list ds) = true := Eq.trans rfl rfl
@[simp] theorem e_tru0 : truD .none = some false := Eq.trans rfl rfl
@[simp] theorem e_tru1 (b : Bool) : truD (.bool b) = some b := Eq.trans rfl rfl
@[simp] theorem e_tru2 (b : Int) : truD (.int b) = some (b != 0) := Eq.trans rfl rfl
@[simp] theorem e_tru3 {ds : List D} : truD (.list ds) = some (!ds.isEmpty) := Eq.trans rfl rfl
@[simp] theorem e_tru4 {ds : List D} : truD (.tuple ds) = some (!ds.isEmpty) := Eq.trans rfl rfl
@[simp] theorem e_mTru {f : Rho → Res D} : mTru f ρ = (f ρ).bind fun x ρ1 => ofOpt (truD x) ρ1 := Eq.trans rfl rfl
@[simp] theorem e_mChain {o o' : D → D → Option D} {f k l : Rho → Res D} : mChain o o' f k l ρ = (f ρ).bind fun x ρ1 => (k ρ1).bind fun y ρ2 => (ofOpt (o x y) ρ2).bind fun z ρ2 => (ofOpt (asB z) ρ2).bind fun q ρ2 =>
  if q then (l ρ2).bind fun w ρ3 => ofOpt (o' y w) ρ3 else .ok (.bool false) ρ2 := Eq.trans rfl rfl
@[simp] theorem e_mTup {ks : Rho → Res (List D)} : mTup ks ρ = (ks ρ).bind fun xs ρ1 => ofOpt (if xs.length ≤ 1000 then some (.tuple xs) else none) ρ1 := Eq.trans rfl rfl
@[simp] theorem e_mLd {ks : Rho → Res (List D)} : mLd ks ρ = (ks ρ).bind fun xs ρ1 => ofOpt (if xs.length ≤ 1000 then some (.list xs) else none) ρ1 := Eq.trans rfl rfl
@[simp] theorem e_add (x y : Int) : addD (.int x) (.int y) = some (.int (x + y)) := Eq.trans rfl rfl
@[simp] theorem e_addT {xs ys : List D} : addD (.tuple xs) (.tuple ys) = if xs.length + ys.length ≤ 1000000 then some (.tuple (xs ++ ys)) else none := Eq.trans rfl rfl
@[simp] theorem e_addL {xs ys : List D} : addD (.list xs) (.list ys) = if xs.length + ys.length ≤ 1000000 then some (.list (xs ++ ys)) else none := Eq.trans rfl rfl
@[simp] theorem e_catL {xs ys : List D} : catD (.list xs) (.list ys) = if xs.length + ys.length ≤ 1000000 then some (.list (xs ++ ys)) else none := Eq.trans rfl rfl
@[simp] theorem e_sub (x y : Int) : subD (.int x) (.int y) = some (.int (x - y)) := Eq.trans rfl rfl
@[simp] theorem e_fdiv (x y : Int) : fdivD (.int x) (.int y) = if 0 < y ∧ y < 2 ^ 200 then some (.int (x / y)) else none := Eq.trans rfl rfl
@[simp] theorem e_mod (x y : Int) : modD (.int x) (.int y) = if 0 < y then some (.int (x % y)) else none := Eq.trans rfl rfl
@[simp] theorem e_pow (i j : Int) : powD (.int i) (.int j) = if 0 ≤ j ∧ j ≤ 1000 ∧ i.natAbs < 2 ^ 64 then some (.int (i ^ j.toNat)) else none := Eq.trans rfl rfl
@[simp] theorem e_neg (x : Int) : negD (.int x) = some (.int (-x)) := Eq.trans rfl rfl
@[simp] theorem e_cmp (p : Int → Int → Bool) (x y : Int) : cmpD p (.int x) (.int y) = some (.bool (p x y)) := Eq.trans rfl rfl
theorem e_mul (i j : Int) (h : -(2 ^ 64) < j ∧ j < 2 ^ 64) : mulA (.int i) (.int j) = some (.int (i * j)) := if_pos (.inr h)
theorem e_mul' (i j : Int) (h : -(2 ^ 64) < i ∧ i < 2 ^ 64) : mulA (.int i) (.int j) = some (.int (i * j)) := if_pos (.inl h)
@[simp] theorem e_ixL {xs : List D} (i : Int) : ixD (.list xs) (.int i) = atI xs i := Eq.trans rfl rfl
@[simp] theorem e_ixT {xs : List D} (i : Int) : ixD (.tuple xs) (.int i) = atI xs i := Eq.trans rfl rfl
@[simp] theorem e_ixS (ns : List Int) (i : Int) : ixD (scrD ns) (.int i) = atI (ns.map PyData.int) i := Eq.trans rfl rfl
@[simp] theorem e_lenL {xs : List D} : lenD [.list xs] = some (.int xs.length) := Eq.trans rfl rfl
@[simp] theorem e_lenT {xs : List D} : lenD [.tuple xs] = some (.int xs.length) := Eq.trans rfl rfl
@[simp] theorem e_lenS (ns : List Int) : lenD [scrD ns] = some (.int ns.length) := by simp [lenD, scrD, scrOf]
@[simp] theorem e_len1 : len1 d = lenD [d] := Eq.trans rfl rfl
@[simp] theorem e_list1 : list1 d = listD [d] := Eq.trans rfl rfl
@[simp] theorem e_tuple1 : tuple1 d = tupleD [d] := Eq.trans rfl rfl
@[simp] theorem e_listL {xs : List D} : listD [.list xs] = some (.list xs) := Eq.trans rfl rfl
@[simp] theorem e_listT {xs : List D} : listD [.tuple xs] = some (.list xs) := Eq.trans rfl rfl
@[simp] theorem e_tupleL {xs : List D} : tupleD [.list xs] = some (.tuple xs) := Eq.trans rfl rfl
@[simp] theorem e_tupleT {xs : List D} : tupleD [.tuple xs] = some (.tuple xs) := Eq.trans rfl rfl
@[simp] theorem e_mNone : mNone ρ = .ok none ρ := Eq.trans rfl rfl
@[simp] theorem e_mSome {f : Rho → Res D} : mSome f ρ = (f ρ).bind fun x ρ1 => (ofOpt (asI x) ρ1).bind fun i ρ1 => .ok (some i) ρ1 := Eq.trans rfl rfl
@[simp] theorem e_mSl {o : D → Option Int → Option Int → Option D} {f : Rho → Res D} {lo hi : Rho → Res (Option Int)} : mSl o f lo hi ρ = (f ρ).bind fun x ρ1 => (lo ρ1).bind fun i ρ2 => (hi ρ2).bind fun j ρ3 => ofOpt (o x i j) ρ3 := Eq.trans rfl rfl
@[simp] theorem e_slLD {xs : List D} {lo hi : Option Int} : slLD (.list xs) lo hi = some (.list (cut xs lo hi)) := Eq.trans rfl rfl
@[simp] theorem e_slAL {xs : List D} {lo hi : Option Int} : slAD (.list xs) lo hi = some (.list (cut xs lo hi)) := Eq.trans rfl rfl
@[simp] theorem e_slAT {xs : List D} {lo hi : Option Int} : slAD (.tuple xs) lo hi = some (.tuple (cut xs lo hi)) := Eq.trans rfl rfl
@[simp] theorem e_mPass : mPass ρ = .nx ρ := Eq.trans rfl rfl
@[simp] theorem e_mSeq {f k : Rho → SR} : mSeq f k ρ = (match f ρ with | .nx ρ1 => k ρ1 | r => r) := Eq.trans rfl rfl
@[simp] theorem e_mSetP {f : Rho → Res D} : mSet .pure i f ρ = (f ρ).toS fun d ρ1 => .nx (ρ1.set i (.fz d)) := Eq.trans rfl rfl
@[simp] theorem e_mSetF {f : Rho → Res D} : mSet .fresh i f ρ = (f ρ).toS fun d ρ1 => .nx (ρ1.set i (.ow d)) := Eq.trans rfl rfl
@[simp] theorem e_mSetLF {f : Rho → Res D} : mSetLF i f ρ = (f ρ).toS fun d ρ1 => if isLst d then .nx (ρ1.set i (.fz d)) else .bad := Eq.trans rfl rfl
@[simp] theorem e_mAsg {t : Tgt} {f : Rho → Res D} : mAsg t f ρ = (f ρ).toS fun d ρ1 => match t.put d ρ1 with | some ρ2 => .nx ρ2 | none => .bad := Eq.trans rfl rfl
@[simp] theorem e_mDrop {f : Rho → Res D} : mDrop f ρ = (f ρ).toS fun _ ρ1 => .nx ρ1 := Eq.trans rfl rfl
@[simp] theorem e_mRet {f : Rho → Res D} : mRet f ρ = (f ρ).toS fun d ρ1 => .rt d ρ1 := Eq.trans rfl rfl
@[simp] theorem e_mRetF {f : Rho → Res D} : mRetF f ρ = (f ρ).toS fun d ρ1 => .rf d ρ1 := Eq.trans rfl rfl
@[simp] theorem e_mRetN : mRetN ρ = .rt .none ρ := Eq.trans rfl rfl
@[simp] theorem e_mRetO : mRetO i ρ = (match ρ[i]? with | some (.ow d) => .rf d (ρ.set i .un) | _ => .bad) := Eq.trans rfl rfl
@[simp] theorem e_mIfS {c : Rho → Res Bool} {f k : Rho → SR} : mIfS c f k ρ = (c ρ).toS fun b ρ1 => if b then f ρ1 else k ρ1 := Eq.trans rfl rfl
@[simp] theorem e_mFor {it : Rho → Res (List D)} {t : Tgt} {f : Rho → SR} : mFor it t f ρ = (it ρ).toS fun ds ρ1 => forL t f ds ρ1 := Eq.trans rfl rfl
@[simp] theorem e_mRaise {n : Str} : mRaise n ρ = .ex n ρ := Eq.trans rfl rfl
@[simp] theorem e_mParN {is : List Nat} {ms : List RM} {ks : Rho → Res (List D)} : mPar is ms ks ρ = (ks ρ).toS fun ds ρ1 => .nx (putAll is ms ds ρ1) := Eq.trans rfl rfl
@[simp] theorem e_putN {ρ : Rho} : putAll [] [] [] ρ = ρ := Eq.trans rfl rfl
@[simp] theorem e_putC {is : List Nat} {ms : List RM} {ds : List D} : putAll (i :: is) (.pure :: ms) (d :: ds) ρ = putAll is ms ds (ρ.set i (.fz d)) := Eq.trans rfl rfl
@[simp] theorem e_putCF {is : List Nat} {ms : List RM} {ds : List D} : putAll (i :: is) (.fresh :: ms) (d :: ds) ρ = putAll is ms ds (ρ.set i (.ow d)) := Eq.trans rfl rfl
@[simp] theorem e_mItA {o : List D → Option (List D)} {ks : Rho → Res (List D)} : mItA o ks ρ = (ks ρ).bind fun xs ρ1 => ofOpt (o xs) ρ1 := Eq.trans rfl rfl
@[simp] theorem e_mSeqI {f : Rho → Res D} : mSeqI f ρ = (f ρ).bind fun x ρ1 => ofOpt (seqD x) ρ1 := Eq.trans rfl rfl
@[simp] theorem e_seqL {xs : List D} : seqD (.list xs) = some xs := Eq.trans rfl rfl
@[simp] theorem e_seqT {xs : List D} : seqD (.tuple xs) = some xs := Eq.trans rfl rfl
@[simp] theorem e_rng1 (j : Int) : rng1 [.int j] = if -1000000 ≤ j ∧ j ≤ 1000000 then some (rngD 0 j.toNat) else none := Eq.trans rfl rfl
@[simp] theorem e_rng2 (i j : Int) : rng2 [.int i, .int j] = if (-1000000 ≤ i ∧ i ≤ 1000000) ∧ (-1000000 ≤ j ∧ j ≤ 1000000) then some (rngD i (j - i).toNat) else none := Eq.trans rfl rfl
@[simp] theorem e_enumA {x : D} : enumA [x] = (seqD x).map enumD := Eq.trans rfl rfl
@[simp] theorem e_zipK {x y : D} : zipK [x, y] = (seqD x).bind fun xs => (seqD y).map fun ys => zipD xs ys := Eq.trans rfl rfl
@[simp] theorem e_putNm : (Tgt.name i).put d ρ = some (ρ.set i (.fz d)) := Eq.trans rfl rfl
@[simp] theorem e_putTup {is : List Nat} {es : List D} : (Tgt.tup is).put (.tuple es) ρ = if es.length = is.length then some (setAll is es ρ) else none := Eq.trans rfl rfl
@[simp] theorem e_setAll0 {ρ : Rho} : setAll [] [] ρ = ρ := Eq.trans rfl rfl
@[simp] theorem e_setAll1 {is : List Nat} {ds : List D} : setAll (i :: is) (d :: ds) ρ = setAll is ds (ρ.set i (.fz d)) := Eq.trans rfl rfl
@[simp] theorem e_mLc {it : Rho → Res (List D)} {vs : List Nat} {t : Tgt} {ft : Rho → Res Bool} {fe : Rho → Res D} : mLc it vs t ft fe ρ = (it ρ).bind fun ds ρ1 =>
  if ds.length ≤ 1000000 then (lcL vs t ft fe ds ρ1).bind fun ys ρ2 => .ok (.list ys) ρ2 else .bad := Eq.trans rfl rfl
@[simp] theorem e_mYes : mYes ρ = .ok true ρ := Eq.trans rfl rfl
@[simp] theorem e_mArgs {is : List Nat} {ks : Rho → Res (List D)} {Fm : List D → List D → FR} : mArgs is ks Fm ρ = (match getOw is ρ with
  | none => .bad
  | some _ => (ks ρ).bind fun es ρ1 => match getOw is ρ1 with
    | none => .bad
    | some os => match Fm os es with
      | .ok d os' => .ok d (setOwn is os' ρ1)
      | .ex n os' => .ex n (setOwn is os' ρ1)
      | .bad => .bad) := Eq.trans rfl rfl
@[simp] theorem e_getOw0 : getOw [] ρ = some [] := Eq.trans rfl rfl
@[simp] theorem e_getOw1 {is : List Nat} : getOw (i :: is) ρ = (match ρ[i]? with | some (.ow d) => (getOw is ρ).map (d :: ·) | _ => none) := Eq.trans rfl rfl
@[simp] theorem e_setOwn0 {ds : List D} : setOwn [] ds ρ = ρ := Eq.trans rfl rfl
@[simp] theorem e_setOwn1 {is : List Nat} {ds : List D} : setOwn (i :: is) (d :: ds) ρ = setOwn is ds (ρ.set i (.ow d)) := Eq.trans rfl rfl
@[simp] theorem e_ownL : ownL i ρ = (match ρ[i]? with | some (.ow (.list ds)) => some ds | _ => none) := Eq.trans rfl rfl
@[simp] theorem e_mVarZ : mVarZ i ρ = (match ownL i ρ with | some ds => .ok (.list ds) (ρ.set i (.fz (.list ds))) | none => .bad) := Eq.trans rfl rfl
@[simp] theorem e_mOwn1 {o : D → Option D} : mOwn1 o i ρ = (match ownL i ρ with | some ds => ofOpt (o (.list ds)) ρ | none => .bad) := Eq.trans rfl rfl
@[simp] theorem e_mOwnL {o : D → D → Option D} {k : Rho → Res D} : mOwnL o i k ρ = (match ownL i ρ with
  | none => .bad
  | some _ => (k ρ).bind fun y ρ1 => match ownL i ρ1 with
    | some ds => ofOpt (o (.list ds) y) ρ1
    | none => .bad) := Eq.trans rfl rfl
@[simp] theorem e_mOwnR {o : D → D → Option D} {f : Rho → Res D} : mOwnR o f i ρ = (f ρ).bind fun x ρ1 => match ownL i ρ1 with
  | some ds => ofOpt (o x (.list ds)) ρ1
  | none => .bad := Eq.trans rfl rfl
@[simp] theorem e_mSlO {lo hi : Rho → Res (Option Int)} : mSlO i lo hi ρ = (match ownL i ρ with
  | none => .bad
  | some _ => (lo ρ).bind fun u ρ1 => (hi ρ1).bind fun w ρ2 => match ownL i ρ2 with
    | some ds => .ok (.list (cut ds u w)) ρ2
    | none => .bad) := Eq.trans rfl rfl
@[simp] theorem e_mTruO : mTruO i ρ = (match ownL i ρ with | some ds => .ok (!ds.isEmpty) ρ | none => .bad) := Eq.trans rfl rfl
@[simp] theorem e_mAppend {f : Rho → Res D} : mAppend i f ρ = (match ownL i ρ with
  | none => .bad
  | some _ => (f ρ).bind fun x ρ1 => match ownL i ρ1 with
    | some ds => if ds.length < 1000000 then .ok .none (ρ1.set i (.ow (.list (ds ++ [x])))) else .bad
    | none => .bad) := Eq.trans rfl rfl
@[simp] theorem e_mPop : mPop i ρ = (match ownL i ρ with
  | some ds => match ds.getLast? with
    | some d => .ok d (ρ.set i (.ow (.list ds.dropLast)))
    | none => .bad
  | none => .bad) := Eq.trans rfl rfl
@[simp] theorem e_mPopAt {f : Rho → Res D} : mPopAt i f ρ = (match ownL i ρ with
  | none => .bad
  | some _ => (f ρ).bind fun y ρ1 => (ofOpt (asI y) ρ1).bind fun j ρ1 => match ownL i ρ1 with
    | some ds => if 0 ≤ j ∧ j < 1000000 then (match ds[j.toNat]? with
      | some d => .ok d (ρ1.set i (.ow (.list (ds.eraseIdx j.toNat))))
      | none => .bad) else .bad
    | none => .bad) := Eq.trans rfl rfl
@[simp] theorem e_mSetIx {k fv : Rho → Res D} : mSetIx i k fv ρ = (fv ρ).toS fun v ρ1 => match ownL i ρ1 with
  | none => .bad
  | some _ => (k ρ1).toS fun y ρ2 => (ofOpt (asI y) ρ2).toS fun j ρ2 => match ownL i ρ2 with
    | some ds => match ixN ds.length j with
      | some q => .nx (ρ2.set i (.ow (.list (ds.set q v))))
      | none => .bad
    | none => .bad := Eq.trans rfl rfl
@[simp] theorem e_mExt {f : Rho → Res D} : mExt i f ρ = (match ownL i ρ with
  | none => .bad
  | some _ => (f ρ).toS fun y ρ1 => match ownL i ρ1, y with
    | some ds, .list es => if ds.length + es.length ≤ 1000000 then .nx (ρ1.set i (.ow (.list (ds ++ es)))) else .bad
    | _, _ => .bad) := Eq.trans rfl rfl
@[simp] theorem e_isiI (i : Int) : isiD .int (.int i) = some (.bool true) := Eq.trans rfl rfl
@[simp] theorem e_isiIb (b : Bool) : isiD .int (.bool b) = some (.bool true) := Eq.trans rfl rfl
@[simp] theorem e_isiB (b : Bool) : isiD .bool (.bool b) = some (.bool true) := Eq.trans rfl rfl
@[simp] theorem e_isiBi (i : Int) : isiD .bool (.int i) = some (.bool false) := Eq.trans rfl rfl
@[simp] theorem e_isiT (xs : List D) : isiD .tuple (.tuple xs) = some (.bool true) := Eq.trans rfl rfl
@[simp] theorem e_isiTL (xs : List D) : isiD .tuple (.list xs) = some (.bool false) := Eq.trans rfl rfl
@[simp] theorem e_isiTi (i : Int) : isiD .tuple (.int i) = some (.bool false) := Eq.trans rfl rfl
@[simp] theorem e_isiTs (s : Str) : isiD .tuple (.str s) = some (.bool false) := Eq.trans rfl rfl
@[simp] theorem e_isiTn : isiD .tuple .none = some (.bool false) := Eq.trans rfl rfl
@[simp] theorem e_isiTb (b : Bool) : isiD .tuple (.bool b) = some (.bool false) := Eq.trans rfl rfl
@[simp] theorem e_isiS (s : Str) : isiD .str (.str s) = some (.bool true) := Eq.trans rfl rfl
@[simp] theorem e_isiSi (i : Int) : isiD .str (.int i) = some (.bool false) := Eq.trans rfl rfl
@[simp] theorem e_isiIn : isiD .int .none = some (.bool false) := Eq.trans rfl rfl
@[simp] theorem e_isiIs (s : Str) : isiD .int (.str s) = some (.bool false) := Eq.trans rfl rfl
@[simp] theorem e_isNn (d : D) (neg : Bool) : isD neg d .none = some (.bool (if neg then !isNoneD d else isNoneD d)) := by cases d <;> rfl
@[simp] theorem e_isBb (p q neg : Bool) : isD neg (.bool p) (.bool q) = some (.bool (if neg then !decide (p = q) else decide (p = q))) := Eq.trans rfl rfl
@[simp] theorem e_runF {n no : Nat} {m : RM} {body : Rho → SR} {os es : List D} : runF n no m body os es = (match body (startR n os es), m with
  | .nx ρ, .pure => .ok .none (outs no ρ)
  | .rt d ρ, .pure => .ok d (outs no ρ)
  | .rf d ρ, .fresh => .ok d (outs no ρ)
  | .ex n ρ, _ => .ex n (outs no ρ)
  | _, _ => .bad) := Eq.trans rfl rfl
@[simp] theorem e_startR {n : Nat} {os es : List D} : startR n os es = os.map .ow ++ (es.map .fz ++ List.replicate (n - (os.length + es.length)) .un) := Eq.trans rfl rfl
@[simp] theorem e_outs {no : Nat} : outs no ρ = (ρ.take no).map outD := Eq.trans rfl rfl
@[simp] theorem e_outD : outD (.ow d) = d := Eq.trans rfl rfl
@[simp] theorem e_min2 (i j : Int) : min2D [.int i, .int j] = some (.int (min i j)) := Eq.trans rfl rfl
@[simp] theorem e_max2 (i j : Int) : max2D [.int i, .int j] = some (.int (max i j)) := Eq.trans rfl rfl
@[simp] theorem e_int1 (i : Int) : int1D [.int i] = some (.int i) := Eq.trans rfl rfl
@[simp] theorem e_int1b (b : Bool) : int1D [.bool b] = some (.int (if b then 1 else 0)) := Eq.trans rfl rfl
end
end Mi
set_option Elab.async false
set_option linter.all false
set_option maxRecDepth 100000
namespace Mi
open PySem PySem.Spec L2
def lcO (j n : Nat) (vs : List Nat) (t : Tgt) (ft : Rho → Res Bool) (fe : Rho → Res D) : Nat → Rho → Res (List D)
  | 0, ρ => match ownL j ρ with
    | some ds => if ds.length = n then .ok [] ρ else .bad
    | none => .bad
  | r + 1, ρ => match ownL j ρ with
    | none => .bad
    | some ds => if ds.length = n then (match ds[n - (r + 1)]? with
      | none => .bad
      | some d => match t.put d (wipeR vs ρ) with
        | none => .bad
        | some ρ1 => (ft ρ1).nox.bind fun b ρ2 => if b then (fe ρ2).nox.bind fun y ρ3 => (lcO j n vs t ft fe r (backR vs ρ ρ3)).bind fun ys ρ4 => .ok (y :: ys) ρ4 else lcO j n vs t ft fe r (backR vs ρ ρ2)) else .bad
def mLcO (j : Nat) (vs : List Nat) (t : Tgt) (ft : Rho → Res Bool) (fe : Rho → Res D) : Rho → Res D := fun ρ => match ownL j ρ with
  | some ds => if ds.length ≤ 1000000 then (lcO j ds.length vs t ft fe ds.length ρ).bind fun ys ρ2 => .ok (.list ys) ρ2 else .bad
  | none => .bad
def wOwnI (K : PySem.W.Frag) (j : Nat) : TI := fun σ H R => tVar j σ H fun x H1 => ∃ a, x = .ref a ∧ (∃ xs, SqL K H1 a xs) ∧ R (Itl K a) H1
section
variable {X : Cx} {g : Gh} {W : WX}
theorem tLcO {j : Nat} {vs : List Nat} {t : Tgt} {ft : Rho → Res Bool} {fe : Rho → Res D} (hv : ∀ i ∈ t.slots, i ∈ vs) (hp : ∀ i ∈ vs, NoPin g i) {σ : St} {H : Hp} {Q : VK}
    (h : tE .fresh g W (mLcO j vs t ft fe) σ H Q) :
    tLc (wOwnI g.K j) (tG g t) (tT g W0 ft) (tE .pure g W0 fe) vs σ H Q := by
  obtain ⟨F1, ρ1, ok1, h⟩ := h
  unfold mLcO at h
  cases q0 : ownL j ρ1 with
  | none => rw [q0] at h; exact h.elim
  | some ds0 =>
  rw [q0] at h
  dsimp only at h
  split at h
  · rename_i hlen
    obtain ⟨a, vs0, b1, b2, b3, b4⟩ := own_at ok1 q0
    refine ⟨_, b1, a, rfl, ⟨vs0, .of b3⟩, ?_⟩
    intro A hA
    refine ⟨fun i m H2 => m = ds0.length - i ∧ i ≤ ds0.length ∧ ∃ F2 ρ2 acc accD, Ok g F2 H2 σ ρ2 ∧ Step σ ρ1 F1 H ρ2 F2 H2 ∧ H2 A = some (.lst acc) ∧ F2 A = none ∧ ¬ Owned σ ρ2 A ∧ DnAll g.K F2 acc accD ∧ accD.length ≤ i ∧
      Post g W σ (rE .fresh g σ) F1 H ρ1 ((lcO j ds0.length vs t ft fe (ds0.length - i) ρ2).bind fun ys ρ3 => .ok (.list (accD ++ ys)) ρ3) Q, ⟨ds0.length, ?_⟩, ?_⟩
    · exact ⟨by omega, Nat.zero_le _, F1, ρ1, [], [], ok1.new hA, Step.new hA, upd_same, ok1.nf hA, ok1.notOwned hA, .nil, Nat.le_refl _, h⟩
    · rintro i m H2 ⟨rfl, hi, F2, ρ2, acc, accD, ok2, st2, hD, hF, hO, hacc, hal, hpost⟩
      by_cases hlt : i < ds0.length
      · obtain ⟨r, hr⟩ : ∃ r, ds0.length - i = r + 1 := ⟨ds0.length - i - 1, by omega⟩
        rw [hr] at hpost
        unfold lcO at hpost
        cases q2 : ownL j ρ2 with
        | none => rw [q2] at hpost; exact hpost.elim
        | some ds =>
        rw [q2] at hpost
        dsimp only at hpost
        split at hpost
        · rename_i hln
          have hidx : ds0.length - (r + 1) = i := by omega
          rw [hidx] at hpost
          obtain ⟨a2, vs2, c1, c2, c3, c4⟩ := own_at ok2 q2
          have ea : a2 = a := by rw [b1] at c1; exact (V.ref.inj (Option.some.inj (Option.some.inj c1))).symm
          subst ea
          have hv2 : vs2.length = ds.length := dna_len c4
          refine .inr ⟨⟨vs2, vs2[i]'(by omega), .of c3, by simp⟩, ?_⟩
          have hds : ds[i]? = some (ds[i]'(by omega)) := List.getElem?_eq_getElem (by omega)
          rw [hds] at hpost
          dsimp only at hpost
          cases e : t.put (ds[i]'(by omega)) (wipeR vs ρ2) with
          | none => rw [e] at hpost; exact hpost.elim
          | some ρ3 =>
          rw [e] at hpost
          dsimp only at hpost
          refine ⟨fun H3 => i + 1 ≤ ds0.length ∧ ∃ F2 ρ2 acc accD, Ok g F2 H3 σ ρ2 ∧ Step σ ρ1 F1 H ρ2 F2 H3 ∧ H3 A = some (.lst acc) ∧ F2 A = none ∧ ¬ Owned σ ρ2 A ∧ DnAll g.K F2 acc accD ∧ accD.length ≤ i + 1 ∧
            Post g W σ (rE .fresh g σ) F1 H ρ1 ((lcO j ds0.length vs t ft fe (ds0.length - (i + 1)) ρ2).bind fun ys ρ3 => .ok (.list (accD ++ ys)) ρ3) Q, fun H3 hN => ⟨ds0.length - (i + 1), by omega, rfl, hN⟩, fun x H' hy => ?_⟩
          have hrr : ds0.length - (i + 1) = r := by omega
          rw [hrr]
          -- the item
          obtain ⟨eH, hx0⟩ := hy
          subst eH
          obtain ⟨d, hd1, hx3⟩ := dna_getV c4 (hx0 vs2 (.of c3))
          have ed : d = ds[i]'(by omega) := by rw [hds] at hd1; exact (Option.some.inj hd1).symm
          subst ed
          refine ⟨F2, wipeR vs ρ2, _, ρ3, ok2.wipe hp, hx3, e, fun σ2 ok4 chg => ?_⟩
          have chg' : Chg vs (wipe σ vs) σ2 := chg.mono hv
          have hl2 : σ2.length = σ.length := by rw [chg'.1, wipe_length]
          have hc2 : ∀ i, i ∉ vs → σ2[i]? = σ[i]? := fun i n => by rw [chg'.2 i n, wipe_out n]
          have own4 : ∀ a, Owned σ2 ρ3 a → Owned σ ρ2 a := fun a z => owned_wipe (owned_put e chg z)
          refine ⟨wipe_eq chg', F2, ρ3, ok4, ?_⟩
          have fin : ∀ {F5 H5 : Hp} {ρ5 : Rho}, Ok g F5 H5 σ2 ρ5 → Step σ2 ρ3 F2 H' ρ5 F5 H5 → Ok g F5 H5 σ (backR vs ρ2 ρ5) ∧ Step σ ρ1 F1 H (backR vs ρ2 ρ5) F5 H5 ∧ H5 A = some (.lst acc) ∧ F5 A = none ∧ ¬ Owned σ (backR vs ρ2 ρ5) A ∧ DnAll g.K F5 acc accD := by
            intro F5 H5 ρ5 ok5 st5
            have ff : Same F2 F5 := st5.ff
            have hO3 : ¬ Owned σ2 ρ3 A := fun z => hO (own4 A z)
            have hA5 : H5 A = some (.lst acc) := st5.kp A _ hD hO3
            have stT : Step σ ρ2 F2 H' (backR vs ρ2 ρ5) F5 H5 := by
              refine ⟨ff, fun a o q n => st5.kp a o q fun z => n (own4 a z), fun a n => ?_, fun a n => st5.th a n, fun a z => own4 a (st5.sh a (owned_back hc2 z))⟩
              rcases st5.fn a n with z | z | z
              · exact .inl z
              · exact .inr (.inl z)
              · exact .inr (.inr (own4 a z))
            refine ⟨ok2.back ok5 st5.ff hl2 hc2 hp, st2.trans stT, hA5, ?_, fun z => hO (stT.sh A z), dna_same ff hacc⟩
            exact Classical.byContradiction fun n => by
              rcases stT.fn A n with z | z | z
              · exact z hF
              · exact z.lst hD
              · exact hO z
          cases hb : ft ρ3 with
          | bad => rw [hb] at hpost; exact hpost.elim
          | ex n ρ5 => rw [hb] at hpost; exact hpost.elim
          | ok b ρ5 =>
            rw [hb] at hpost
            intro b' F5 H5 st5 ok5 eb
            have eb' : b' = b := eb
            subst eb'
            cases b' with
            | false =>
              obtain ⟨f1, f2, f3, f4, f5, f6⟩ := fin ok5 st5
              exact ⟨hlt, F5, _, acc, accD, f1, f2, f3, f4, f5, f6, by omega, hpost⟩
            | true =>
              refine ⟨F5, ρ5, ok5, ?_⟩
              rw [Res.nox_ok, Res.bind_ok, if_pos rfl] at hpost
              cases hy2 : fe ρ5 with
              | bad => rw [hy2] at hpost; exact hpost.elim
              | ex n ρ6 => rw [hy2] at hpost; exact hpost.elim
              | ok y ρ6 =>
                rw [hy2] at hpost
                intro yv F6 H6 st6 ok6 hyv
                obtain ⟨f1, f2, f3, f4, f5, f6⟩ := fin ok6 (st5.trans st6)
                have hle : acc.length = accD.length := dna_len f6
                refine ⟨acc, f3, lim_lt hle hal hlt hlen, hlt, F6, _, acc ++ [yv], accD ++ [y], f1.tmp f4 (ok1.nh0 hA) f5, f2.tmp hA, upd_same, f4, f5, dna_app f6 (.cons hyv .nil), by rw [List.length_append, List.length_singleton]; omega, ?_⟩
                rw [Res.nox_ok, Res.bind_ok, Res.bind_assoc] at hpost
                have e2 : (fun ys ρ3 => (Res.ok (PyData.list (accD ++ [y] ++ ys)) ρ3 : Res D)) = fun ys ρ3 => .ok (.list (accD ++ y :: ys)) ρ3 := by
                  funext ys ρ3
                  rw [List.append_assoc, List.singleton_append]
                rw [e2]
                exact hpost
        · exact hpost.elim
      · have e : i = ds0.length := by omega
        subst e
        rw [Nat.sub_self] at hpost
        unfold lcO at hpost
        cases q2 : ownL j ρ2 with
        | none => rw [q2] at hpost; exact hpost.elim
        | some ds =>
        rw [q2] at hpost
        dsimp only at hpost
        split at hpost
        · rename_i hln
          obtain ⟨a2, vs2, c1, c2, c3, c4⟩ := own_at ok2 q2
          have ea : a2 = a := by rw [b1] at c1; exact (V.ref.inj (Option.some.inj (Option.some.inj c1))).symm
          subst ea
          refine .inl ⟨⟨vs2, .of c3, by rw [dna_len c4]; omega⟩, ?_⟩
          have hpost' : Post g W σ (rE .fresh g σ) F1 H ρ1 (.ok (.list (accD ++ [])) ρ2) Q := hpost
          rw [List.append_nil] at hpost'
          exact hpost' (.ref A) F2 H2 st2 ok2 ⟨A, rfl, hA, .lst hF hD hacc, hO⟩
        · exact hpost.elim
  · exact h.elim
theorem m_lcO {j : Nat} {y : Str} {py : Pos} {elt tg : Expr} {ifs : List Expr} {scope : Scope} {own : List (Str × Nat)} {pos : Pos} {t : Tgt} {ft : Rho → Res Bool} {fe : Rho → Res D}
    (hN : X.N.Nodup) (n : NmAt X j y) (ok : blkC X.N X.env.scope scope own = true)
    (hg : ∀ (s : Shared) (H : Hp) (C : Addr) (cl : List (Str × Addr)) (fp : List Addr), PG (X.blk s H scope (compEnvC scope cl C X.env) fp) tg (tG g t)) (ht : ∀ (s : Shared) (H : Hp) (C : Addr) (cl : List (Str × Addr)) (fp : List Addr), PTs (X.blk s H scope (compEnvC scope cl C X.env) fp) ifs (tT g W0 ft))
    (he : ∀ (s : Shared) (H : Hp) (C : Addr) (cl : List (Str × Addr)) (fp : List Addr), PE (X.blk s H scope (compEnvC scope cl C X.env) fp) elt (tE .pure g W0 fe)) (hp : ∀ i ∈ own.map (·.2), NoPin g i) (hK : X.K = g.K := by rfl) (hv : ∀ i ∈ t.slots, i ∈ own.map (·.2) := by decide) (hc : X.calm = true := by rfl)
    (hs : ∀ x, foldedSetIterable (.Name y py) X.env x = pure x := by intro _; rfl) :
    PE X (.ListComp elt [⟨tg, .Name y py, ifs, 0⟩] scope pos) (tE .fresh g W (mLcO j (own.map (·.2)) t ft fe)) :=
  pe_mono (pe_lc hc hN (pi_list n.pe) (blkOk_by ok) hg ht he hs) fun _ _ _ h => by
    have := tLcO hv hp h
    rw [hK]
    exact this
theorem m_setLcO (i : Nat) {z : Str} {j : Nat} {y : Str} {py pz : Pos} {elt tg : Expr} {ifs : List Expr} {scope : Scope} {own : List (Str × Nat)} {pos spos : Pos} {t : Tgt} {ft : Rho → Res Bool} {fe : Rho → Res D} (hpi : NoPin g i)
    (hN : X.N.Nodup) (n : NmAt X j y) (ok : blkC X.N X.env.scope scope own = true)
    (hg : ∀ (s : Shared) (H : Hp) (C : Addr) (cl : List (Str × Addr)) (fp : List Addr), PG (X.blk s H scope (compEnvC scope cl C X.env) fp) tg (tG g t)) (ht : ∀ (s : Shared) (H : Hp) (C : Addr) (cl : List (Str × Addr)) (fp : List Addr), PTs (X.blk s H scope (compEnvC scope cl C X.env) fp) ifs (tT g W0 ft))
    (he : ∀ (s : Shared) (H : Hp) (C : Addr) (cl : List (Str × Addr)) (fp : List Addr), PE (X.blk s H scope (compEnvC scope cl C X.env) fp) elt (tE .pure g W0 fe)) (hp : ∀ i ∈ own.map (·.2), NoPin g i) (hz : X.N[i]? = some z := by rfl) (hzl : X.env.scope.names.lookup z = some .local := by rfl)
    (hsw : swapsWith (.ListComp elt [⟨tg, .Name y py, ifs, 0⟩] scope pos) (some (.Name z pz)) spos.line X.env = pure true := by exact sw_true rfl rfl rfl (by decide +kernel)) (hK : X.K = g.K := by rfl) (hv : ∀ i ∈ t.slots, i ∈ own.map (·.2) := by decide) (hc : X.calm = true := by rfl)
    (hs : ∀ x, foldedSetIterable (.Name y py) X.env x = pure x := by intro _; rfl) :
    PS X (.Assign [.Name z pz] (.ListComp elt [⟨tg, .Name y py, ifs, 0⟩] scope pos) spos) (tS g W (mSetLF i (mLcO j (own.map (·.2)) t ft fe))) :=
  ps_mono (ps_setLc hc hN hz hzl hsw (pi_list n.pe) (blkOk_by ok) hg ht he hs) fun D σ H ⟨F, ρ, okk, h⟩ => by
    have := tLcO (W := W) hv hp (Q := fun x H1 => gName i x σ H1 D.nx) ⟨F, ρ, okk, lc_frz (it := mNil) (vs := own.map (·.2)) (t := t) (ft := ft) (fe := mLcO j (own.map (·.2)) t ft fe) hpi okk h⟩
    rw [hK]
    exact this
end
end Mi
set_option Elab.async false
set_option linter.all false
set_option maxRecDepth 100000
set_option maxHeartbeats 4000000
namespace Mi
open PySem PySem.Spec L2

section
variable {X : Cx} {g : Gh} {W : WX} {a b c tg : Expr} {pos p p2 : Pos} {f k l : Rho → Res D} {ks : Rho → Res (List D)} {m : RM}
def rngDn (lo : Int) (n : Nat) : List D := (List.range n).map fun k => .int (lo - (k : Nat))
theorem rngDn_len (lo : Int) (n : Nat) : (rngDn lo n).length = n := by unfold rngDn; rw [List.length_map, List.length_range]
theorem src_rangeDn {K : PySem.W.Frag} {F : Hp} {lo : Int} {n : Nat} : Src K F (Itc lo (-1) n) (rngDn lo n) where
  goes := fun i H hi e => by rw [rngDn_len] at hi; exact hi
  stops := fun H e => by rw [rngDn_len]; exact Nat.le_refl _
  yld := fun i H x H' hi e y => by
    rw [rngDn_len] at hi
    refine ⟨.int (lo - i), ?_, .inl ⟨y.1, ?_⟩⟩
    · unfold rngDn
      rw [List.getElem?_map, List.getElem?_range hi]
      rfl
    · rw [y.2, show lo + (i : Nat) * (-1) = lo - (i : Nat) by omega]; exact .int _
def rng3 : List D → Option (List D)
  | [.int i, .int j, .int c] => if c = -1 ∧ (-1000000 ≤ i ∧ i ≤ 1000000) ∧ (-1000000 ≤ j ∧ j ≤ 1000000) then some (rngDn i (i - j).toNat) else none
  | _ => none
theorem m_rng3 (hm : X.mg "range" = none) (ha : PA X [a, b, c] (tA g W ks)) (hg : Gl X "range" := by rfl) (hs : starEach [a, b, c] X.env = (false, eval a X.env) :: starEach [b, c] X.env := by rfl) (hpl : (backTo pos (starEach [b, c] X.env)).any (·.1) = false := by rfl) :
    PI X tg (.Call (.Name "range" p) [a, b, c] [] pos) (tI g W (mItA rng3 ks)) :=
  pi_mono (pi_range3 hg hm ha hs hpl) fun σ H R ⟨F, ρ, ok, h⟩ => by
    refine ⟨F, ρ, ok, Post.bind h fun ds ρ1 xs F1 H1 st ok1 hx h1 => ?_⟩
    unfold rng3 at h1
    split at h1
    · cases hx with
      | cons q1 t1 =>
        cases t1 with
        | cons q2 t2 =>
          cases t2 with
          | cons q3 t3 =>
            cases t3
            cases q1
            cases q2
            cases q3
            rename_i i j c
            split at h1
            · rename_i z
              obtain ⟨rfl, z1, z2⟩ := z
              exact ⟨i, j, -1, _, rfl, RgC.neg (by omega) (by omega) (by omega) (by omega), h1.done ok1 src_rangeDn⟩
            · exact h1.elim
    · exact h1.elim
theorem dna_rg {K : PySem.W.Frag} {F : Hp} (i j : Int) : DnAll K F (rgV i j) (rngD i (j - i).toNat) := by
  unfold rgV rngD
  generalize (j - i).toNat = n
  have h : ∀ xs : List Nat, DnAll K F (xs.map fun k => V.int (i + (k : Nat))) (xs.map fun k => PyData.int (i + (k : Nat))) := fun xs => by
    induction xs with
    | nil => exact .nil
    | cons x xs ih => exact .cons (.int _) ih
  exact h _
def lrg1 : D → Option D
  | .int j => if -1000000 ≤ j ∧ j ≤ 1000000 then some (.list (rngD 0 j.toNat)) else none
  | _ => none
def lrg2 : D → D → Option D
  | .int i, .int j => if (-1000000 ≤ i ∧ i ≤ 1000000) ∧ (-1000000 ≤ j ∧ j ≤ 1000000) then some (.list (rngD i (j - i).toNat)) else none
  | _, _ => none
theorem m_lrg1 (hm : X.mg "list" = none) (hmr : X.mg "range" = none) (ha : PE X a (tE .pure g W f)) (hc : X.calm = true := by rfl) (hg : Gl X "list" := by rfl) (hgr : Gl X "range" := by rfl)
    (na : starEach [a] X.env = (false, eval a X.env) :: starEach [] X.env := by rfl)
    (na2 : starEach [.Call (.Name "range" p2) [a] [] pos] X.env = (false, eval (.Call (.Name "range" p2) [a] [] pos) X.env) :: starEach [] X.env := by rfl) {pos2 : Pos} :
    PE X (.Call (.Name "list" p) [.Call (.Name "range" p2) [a] [] pos] [] pos2) (tE .fresh g W (mUn lrg1 f)) :=
  pe_mono (pe_listRg hc hg hm (prg_1 hgr hmr ha na) na2) fun σ H Q ⟨F, ρ, ok, h⟩ => by
    refine ⟨F, ρ, ok, Post.bind h fun d ρ1 x F1 H1 st ok1 hx h1 => ?_⟩
    unfold lrg1 at h1
    split at h1
    · cases hx
      rename_i j
      split at h1
      · rename_i z
        refine ⟨j, rfl, ⟨by omega, by omega, by omega, by omega, by omega⟩, fun q hq => ?_⟩
        have h2 : DnAll g.K F1 (rgV 0 j) (rngD 0 j.toNat) := by
          have := dna_rg (K := g.K) (F := F1) 0 j
          rwa [Int.sub_zero] at this
        exact h1.newL ok1 h2 hq
      · exact h1.elim
    · exact h1.elim
theorem m_lrg2 (hm : X.mg "list" = none) (hmr : X.mg "range" = none) (ha : PE X a (tE .pure g W f)) (hb : PE X b (tE .pure g W k)) (hc : X.calm = true := by rfl) (hg : Gl X "list" := by rfl) (hgr : Gl X "range" := by rfl)
    (na : starEach [a, b] X.env = (false, eval a X.env) :: starEach [b] X.env := by rfl) (nb : starEach [b] X.env = (false, eval b X.env) :: starEach [] X.env := by rfl) (hpl : (backTo pos (starEach [b] X.env)).any (·.1) = false := by rfl)
    (na2 : starEach [.Call (.Name "range" p2) [a, b] [] pos] X.env = (false, eval (.Call (.Name "range" p2) [a, b] [] pos) X.env) :: starEach [] X.env := by rfl) {pos2 : Pos} :
    PE X (.Call (.Name "list" p) [.Call (.Name "range" p2) [a, b] [] pos] [] pos2) (tE .fresh g W (mBin lrg2 f k)) :=
  pe_mono (pe_listRg hc hg hm (prg_2 hgr hmr ha hb na nb hpl) na2) fun σ H Q ⟨F, ρ, ok, h⟩ => by
    refine ⟨F, ρ, ok, Post.bind h fun d ρ1 x F1 H1 st ok1 hx h1 => ⟨F1, ρ1, ok1, Post.bind h1 fun e ρ2 y F2 H2 st2 ok2 hy h2 => ?_⟩⟩
    unfold lrg2 at h2
    split at h2
    · cases hx
      cases hy
      rename_i i j
      split at h2
      · rename_i z
        refine ⟨i, j, rfl, rfl, ⟨by omega, by omega, by omega, by omega, by omega⟩, fun q hq => ?_⟩
        exact h2.newL ok2 (dna_rg i j) hq
      · exact h2.elim
    · exact h2.elim
def revD : D → Option D
  | .list xs => some (.list xs.reverse)
  | _ => none
theorem m_revL {kk : Nat} {p1 p3 : Pos} (ha : PE X a (tE .pure g W f)) (hK : X.K = g.K := by rfl) : PE X (.Subscript a (.Slice none none (some (.UnaryOp .USub (.Constant (.int 1) kk p1) p2)) p3) pos) (tE .fresh g W (mUn revD f)) :=
  pe_mono (pe_revL ha) fun σ H Q ⟨F, ρ, ok, h⟩ => by
    refine ⟨F, ρ, ok, Post.bind h fun d ρ1 x F1 H1 st ok1 hx h1 => ?_⟩
    cases d with
    | list ds =>
      cases hx with
      | lst hf hds =>
        rw [hK]
        exact ⟨_, _, rfl, .of (ok1.sub _ _ hf), fun q hq => h1.newL ok1 (dna_rev hds) hq⟩
    | _ => exact h1.elim
end
def insI (x : Int) : List Int → List Int
  | [] => [x]
  | y :: r => if x ≤ y then x :: y :: r else y :: insI x r
def sortI : List Int → List Int
  | [] => []
  | x :: r => insI x (sortI r)
theorem mem_insI {x y : Int} : ∀ {xs : List Int}, y ∈ insI x xs ↔ y = x ∨ y ∈ xs
  | [] => by simp [insI]
  | z :: r => by
    unfold insI
    split
    · simp
    · simp only [List.mem_cons, mem_insI (xs := r)]
      constructor
      · rintro (h | h | h)
        · exact .inr (.inl h)
        · exact .inl h
        · exact .inr (.inr h)
      · rintro (h | h | h)
        · exact .inr (.inl h)
        · exact .inl h
        · exact .inr (.inr h)
theorem insI_perm (x : Int) : ∀ xs : List Int, (insI x xs).Perm (x :: xs)
  | [] => .refl _
  | y :: r => by
    unfold insI
    split
    · exact .refl _
    · exact ((insI_perm x r).cons y).trans (.swap x y r)
theorem sortI_perm : ∀ xs : List Int, (sortI xs).Perm xs
  | [] => .refl _
  | x :: r => (insI_perm x _).trans ((sortI_perm r).cons x)
theorem insI_sorted {x : Int} : ∀ {xs : List Int}, xs.Pairwise (· ≤ ·) → (insI x xs).Pairwise (· ≤ ·)
  | [], _ => List.pairwise_singleton _ _
  | y :: r, h => by
    obtain ⟨h1, h2⟩ := List.pairwise_cons.mp h
    unfold insI
    split
    · rename_i q
      refine List.pairwise_cons.mpr ⟨fun z hz => ?_, h⟩
      rcases List.mem_cons.mp hz with rfl | hz
      · exact q
      · exact Int.le_trans q (h1 z hz)
    · rename_i q
      refine List.pairwise_cons.mpr ⟨fun z hz => ?_, insI_sorted h2⟩
      rcases mem_insI.mp hz with rfl | hz
      · omega
      · exact h1 z hz
theorem sortI_sorted : ∀ xs : List Int, (sortI xs).Pairwise (· ≤ ·)
  | [] => .nil
  | _ :: r => insI_sorted (sortI_sorted r)
theorem sorted_uniq : ∀ {xs ys : List Int}, xs.Perm ys → xs.Pairwise (· ≤ ·) → ys.Pairwise (· ≤ ·) → xs = ys
  | [], ys, p, _, _ => p.symm.eq_nil.symm
  | x :: xs, [], p, _, _ => absurd p.eq_nil (by simp)
  | x :: xs, y :: ys, p, h, k => by
    obtain ⟨h1, h2⟩ := List.pairwise_cons.mp h
    obtain ⟨k1, k2⟩ := List.pairwise_cons.mp k
    have e : x = y := by
      have a1 : x ∈ y :: ys := p.mem_iff.mp List.mem_cons_self
      have a2 : y ∈ x :: xs := p.mem_iff.mpr List.mem_cons_self
      rcases List.mem_cons.mp a1 with q | q
      · exact q
      · rcases List.mem_cons.mp a2 with q2 | q2
        · exact q2.symm
        · exact Int.le_antisymm (h1 y q2) (k1 x q)
    subst e
    rw [sorted_uniq (p.cons_inv) h2 k2]
/-- sorted, each once -/
def dedI : List Int → List Int
  | [] => []
  | x :: r => if r.contains x then dedI r else x :: dedI r
theorem mem_dedI {y : Int} : ∀ {xs : List Int}, y ∈ dedI xs ↔ y ∈ xs
  | [] => .rfl
  | x :: r => by
    unfold dedI
    split
    · rename_i q
      have q : x ∈ r := by simpa using q
      rw [mem_dedI (xs := r)]
      constructor
      · exact List.mem_cons_of_mem _
      · intro h
        rcases List.mem_cons.mp h with rfl | h
        · exact q
        · exact h
    · rw [List.mem_cons, List.mem_cons, mem_dedI (xs := r)]
theorem dedI_nodup : ∀ xs : List Int, (dedI xs).Nodup
  | [] => .nil
  | x :: r => by
    unfold dedI
    split
    · exact dedI_nodup r
    · rename_i q
      refine List.nodup_cons.mpr ⟨fun h => q ?_, dedI_nodup r⟩
      simpa using mem_dedI.mp h
def setI (xs : List Int) : List Int := sortI (dedI xs)
theorem mem_setI {y : Int} {xs : List Int} : y ∈ setI xs ↔ y ∈ xs := by rw [setI, (sortI_perm _).mem_iff, mem_dedI]
theorem setI_lt (xs : List Int) : (setI xs).Pairwise (· < ·) := by
  have h1 := sortI_sorted (dedI xs)
  have h2 : (sortI (dedI xs)).Nodup := (sortI_perm _).nodup_iff.mpr (dedI_nodup xs)
  exact List.Pairwise.imp₂ (fun a b h k => by omega) h1 h2
theorem lt_uniq {xs ys : List Int} (h : xs.Pairwise (· < ·)) (k : ys.Pairwise (· < ·)) (e : ∀ z, z ∈ xs ↔ z ∈ ys) : xs = ys := by
  have nd : ∀ {zs : List Int}, zs.Pairwise (· < ·) → zs.Nodup := fun h => h.imp fun h => by omega
  exact sorted_uniq ((List.perm_ext_iff_of_nodup (nd h) (nd k)).mpr e) (h.imp fun h => by omega) (k.imp fun h => by omega)
def sortD : List D → Option D
  | [.list xs] => (intsOf xs).map fun ns => .list ((sortI ns).map PyData.int)
  | _ => none
def setD : D → Option D
  | .list xs => (intsOf xs).bind fun ns => if ns.length < 64 then some (.list ((setI ns).map PyData.int)) else none
  | _ => none
end Mi
set_option Elab.async false
set_option linter.all false
set_option maxRecDepth 100000
set_option maxHeartbeats 4000000
namespace Mi
open PySem PySem.Spec L2
open PyProof.Rows hiding St

abbrev set0 (w : World) : Obj := { cls := .type "set", dict := none, data := .set #[] 0 (.fresh 0 0 (!w.params.followText "set-order")) }
section
variable {P : Program} {w : World} {A : Around} {E : Value → Shared → Prop} {s : Shared}
theorem set_of_ints {l : Addr} {items : Array Value} (ns : List Int) {Q : Value → Shared → Prop} (hh : A.handled = none) (hl : s.heap.IsList l items) (hit : IntsAre items.toList ns) (hb : ns.length + 1 < scanBound)
    (h : ∀ (h' : Heap) (tk c : Nat), SetR w h' s.heap.objs.size (fun j => decide (j ∈ ns)) c → c ≤ ns.length → (∀ b o, s.heap.get? b = some o → h'.get? b = some o) → Q (.ref s.heap.objs.size) { s with heap := h', toks := tk }) :
    wpAny (model P w) A (call (.type "set") [.ref l]) Q E s := by
  have len : items.size = ns.length := by
    rw [← Array.length_toList]
    exact IntsAre.length hit
  have ⟨c0, tl0, k1⟩ := F.called_set.mro
  have k2 := F.called_set.made
  have k3 := F.called_set.sub
  have k4 := F.called_set.notType
  have k5 := F.called_set.canCreate
  have k6 := F.typeCall_set_1 (.ref l)
  refine wpAny_call (codeAny_of_tree ?_)
  show wpAny _ _ (callAny (.type "set") _) _ _ _
  refine wpAny_pure ⟨Code.quiet_builtin _ (by decide +kernel), codeAny_builtin F.entry_type_call ?_⟩
  rw [Around.under_plain (weight_type_call_type "set" [.ref l] []) rfl]
  repeat (any_goals (first | assumption | wp_step))
  refine codeAny_mono (code_set_led1 (.ref l) (E := E) (Q₁ := fun obj s₁ => obj = .ref s.heap.objs.size ∧ s₁ = { s with heap := s.heap.push (set0 w) }) ⟨rfl, rfl⟩) fun r s₁ hr => ?_
  cases r with
  | error e => exact hr
  | ok fl =>
    cases fl with
    | ret obj =>
      obtain ⟨rfl, rfl⟩ := hr
      have at0 : (s.heap.push (set0 w)).get? s.heap.objs.size = some (set0 w) := Heap.get?_push_size _ rfl
      have ty0 : Shared.TypeIs { s with heap := s.heap.push (set0 w) } (.ref s.heap.objs.size) "set" := ⟨_, at0, rfl⟩
      have k7 := F.called_set.init.lookup
      have k8 := F.called_set.init.bind (.ref s.heap.objs.size)
      repeat (any_goals (first | assumption | wp_step))
      refine codeAny_mono (codeAny_call_builtin (R := wants (fun r s₂ => r = .none ∧ ∃ h' tk c, s₂ = { s with heap := h', toks := tk } ∧ SetR w h' s.heap.objs.size (fun j => decide (j ∈ ns)) c ∧ c ≤ ns.length ∧
          ∀ b o, s.heap.get? b = some o → h'.get? b = some o) E) F.called_set.init.plain F.entry_set_init (check_set_init_1 ty0 ?_)) fun r₂ s₂ hr₂ => ?_
      · have ⟨⟨oc, od, oda, os⟩, ol, e1, nl, e2⟩ := hl
        have e1' : oc = .type "list" := e1
        have e2' : oda = .seq items nl := e2
        subst e1' e2'
        have ol' : (s.heap.push (set0 w)).get? l = some { cls := .type "list", dict := od, data := .seq items nl, slots := os } := Heap.get?_push_of_some _ ol
        have f1 := F.sub_list_set
        have f2 := F.sub_list_frozenset
        have f3 : (Value.type "list" == Value.type "dict") = false := by decide
        have hl1 : (s.heap.push (set0 w)).IsList l items := hl.push _
        unfold Builtin.«set.__init__» noKeywords Builtin.Frozenset.updateFrom
        generalize hP : pyIter = PI
        wp_walk
        subst hP
        refine wpAny_pyIter_list hl1 ?_
        refine wpAny_bind (wpAny_runValue ?_)
        have lt : l < s.heap.objs.size := Heap.lt_size ol
        have hh3 : A.in1.in1.in1.handled = none := by simp [hh]
        have z1 : l ≠ (s.heap.push (set0 w)).objs.size := by
          rw [Heap.size_push]; exact Nat.ne_of_lt (Nat.lt_succ_of_lt lt)
        have z2 : s.heap.objs.size ∉ [(s.heap.push (set0 w)).objs.size, l] := by
          rw [Heap.size_push]
          simp only [List.mem_cons, List.not_mem_nil, or_false, not_or]
          exact ⟨Nat.ne_of_lt (Nat.lt_succ_self _), Nat.ne_of_gt lt⟩
        have hv : ∀ (i : Nat) (v : Value), items[i]? = some v → ∃ k t, ns[i]? = some k ∧ v = .int k t := fun i v e => by
          have hi : i < ns.length := by rw [← len]; exact (Array.getElem?_eq_some_iff.mp e).1
          obtain ⟨t, e'⟩ := IntsAre.int_at hit i v (by rw [Array.getElem?_toList]; exact e)
          exact ⟨ns[i], t, List.getElem?_eq_getElem hi, by rw [e', List.getD_eq_getElem?_getD, List.getElem?_eq_getElem hi] <;> rfl⟩
        refine set_update_ints ((Walks.list hh3 _ l z1 items).toS) s.heap.objs.size z2 ns len hb hv (items.size - 0) 0 _ (by omega) (Nat.zero_le _)
          ⟨⟨_, Heap.get?_push_size _ rfl, rfl, rfl⟩, (hl1.push _)⟩ ⟨0, Nat.le_refl 0, setR_new_at (Heap.get?_push_of_some _ at0)⟩ fun s' c' hm hc' hS' => ?_
        obtain ⟨h', g2, d', tk', os'⟩ := s'
        cases (show g2 = s.gens from hm.gens)
        cases (show d' = s.drawn from hm.drawn)
        cases (show os' = s.os from hm.os)
        show wpAny _ _ _ _ _ _
        refine wpAny_pure ?_
        show wpAny _ _ (ret Value.none) _ _ _
        rw [len] at hc'
        refine wpAny_pure ⟨rfl, h', tk', c', rfl, hS', hc', fun b o e => ?_⟩
        have b0 : b < s.heap.objs.size := Heap.lt_size e
        have b2 : b ≠ (s.heap.push (set0 w)).objs.size := by rw [Heap.size_push]; exact Nat.ne_of_lt (Nat.lt_succ_of_lt b0)
        refine hm.heap b o ?_ (Heap.get?_push_of_some _ (Heap.get?_push_of_some _ e))
        simp only [List.mem_cons, List.not_mem_nil, or_false, not_or]
        exact ⟨Nat.ne_of_lt b0, b2⟩
      · cases r₂ with
        | error e => exact hr₂
        | ok fl₂ =>
          cases fl₂ with
          | ret r =>
            obtain ⟨rfl, h', tk, c', rfl, hS', hc', hk'⟩ := hr₂
            repeat (any_goals (first | assumption | wp_step))
            exact h _ _ _ hS' hc' hk'
          | _ => exact hr₂.elim
    | _ => exact hr.elim
end
section
variable {X : Cx} {g : Gh} {W : WX} {a b c tg : Expr} {pos p p2 : Pos} {f k l : Rho → Res D} {ks : Rho → Res (List D)} {m : RM}
def rSetL (K : PySem.W.Frag) (w : World) : List V → Hp → VK → Prop := fun vs H Q => ∃ (a : Addr) (ns : List Int), vs = [V.ref a] ∧ SqL K H a (ns.map V.int) ∧ ns.length < 64 ∧ ∀ p c, H p = none → c ≤ ns.length → Q (.ref p) (upd H p (SetO w p (fun j => decide (j ∈ ns)) c))
theorem cr_setL (hc : X.calm = true) : CallR X (.type "set") (rSetL X.K X.w) := by
  intro pins s σ H vs us Q I r h
  obtain ⟨a, ns, rfl, hs, h64, q⟩ := h
  obtain ⟨its, rv, hl, hz⟩ := I.list hs
  rw [Vals.ref1 r]
  refine set_of_ints ns (I.ok.hd hc) hl.isList (by simpa using rv.ints) (by unfold scanBound; omega) fun h' tk c R hcn kk => ?_
  exact ⟨.ref _, upd H s.heap.objs.size (SetO X.w s.heap.objs.size (fun j => decide (j ∈ ns)) c), I.laid (t' := tk) kk (Nat.le_refl _) (setO_new R), rfl, q _ _ (I.hok.fresh (Nat.le_refl _)) hcn⟩
theorem m_sortSet (hm : X.mg "sorted" = none) (hms : X.mg "set" = none) (ha : PE X a (tE .pure g W f)) (hK : X.K = g.K := by rfl) (hc : X.calm = true := by rfl) (hg : Gl X "sorted" := by rfl) (hgs : Gl X "set" := by rfl)
    (na : starEach [a] X.env = [(false, eval a X.env)] := by rfl) {pos2 : Pos} (na2 : starEach [.Call (.Name "set" p2) [a] [] pos] X.env = [(false, eval (.Call (.Name "set" p2) [a] [] pos) X.env)] := by rfl)
    (hpl : (backTo pos (starEach [] X.env)).any (·.1) = false := by rfl) (hpl2 : (backTo pos2 (starEach [] X.env)).any (·.1) = false := by rfl) :
    PE X (.Call (.Name "sorted" p) [.Call (.Name "set" p2) [a] [] pos] [] pos2) (tE .fresh g W (mUn setD f)) :=
  pe_mono (pe_callB (cr_sortedSet hc) hg hm (by decide +kernel) (pa_cons (pe_callTy (cr_setL hc) hgs hms (by decide +kernel) (pa_cons ha pa_nil na) (by decide) (by decide) na hpl) pa_nil na2) (by decide) (by decide) na2 hpl2) fun σ H Q ⟨F, ρ, ok, h⟩ => by
    refine ⟨F, ρ, ok, Post.bind h fun d ρ1 x F1 H1 st ok1 hx h1 => ?_⟩
    cases d with
    | list ds =>
      cases e : intsOf ds with
      | none => simp only [setD, e] at h1; exact h1.elim
      | some ns =>
        by_cases z : ns.length < 64
        · simp only [setD, e, Option.bind_some, if_pos z, ofOpt_some] at h1
          rw [intsOf_eq e] at hx
          cases hx with
          | lst hf hds =>
            rename_i pa vs
            rw [dna_ints hds] at hf
            rw [hK]
            refine ⟨pa, ns, rfl, .of (ok1.sub _ _ hf), z, fun q c hq hcn => ⟨q, _, c, rfl, upd_same, by omega, fun zs p hp he hl hn => ?_⟩⟩
            have ez : zs = setI ns := lt_uniq hp (setI_lt ns) fun y => by rw [he y, mem_setI]; simp
            rw [ez]
            have hp0 : H1 p = none := by
              have : p ≠ q := fun e => by subst e; rw [upd_same] at hn; cases hn
              rwa [upd_ne this] at hn
            exact Post.newL (F := F1) (Post.shift (Step.new hq) h1) (ok1.new hq) (dna_of_ints _) hn
        · simp only [setD, e, Option.bind_some, if_neg z] at h1; exact h1.elim
    | _ => exact h1.elim
end
end Mi
set_option Elab.async false
set_option linter.all false
set_option maxRecDepth 100000
namespace Mi
open PySem PySem.Spec L2
section
variable {α : Type} {ρ : Rho} {i : Nat} {d e : D}
@[simp] theorem e_lrg1 (j : Int) : lrg1 (.int j) = if -1000000 ≤ j ∧ j ≤ 1000000 then some (.list (rngD 0 j.toNat)) else none := Eq.trans rfl rfl
@[simp] theorem e_lrg2 (i j : Int) : lrg2 (.int i) (.int j) = if (-1000000 ≤ i ∧ i ≤ 1000000) ∧ (-1000000 ≤ j ∧ j ≤ 1000000) then some (.list (rngD i (j - i).toNat)) else none := Eq.trans rfl rfl
@[simp] theorem e_rng3 (i j c : Int) : rng3 [.int i, .int j, .int c] = if c = -1 ∧ (-1000000 ≤ i ∧ i ≤ 1000000) ∧ (-1000000 ≤ j ∧ j ≤ 1000000) then some (rngDn i (i - j).toNat) else none := Eq.trans rfl rfl
@[simp] theorem e_revD {xs : List D} : revD (.list xs) = some (.list xs.reverse) := Eq.trans rfl rfl
theorem e_setD (ns : List Int) (h : ns.length < 64) : setD (.list (ns.map PyData.int)) = some (.list ((setI ns).map PyData.int)) := by
  show (intsOf (ns.map PyData.int)).bind _ = _
  rw [intsOf_map]
  show (if ns.length < 64 then _ else _) = _
  rw [if_pos h]
@[simp] theorem e_mLcO {j : Nat} {vs : List Nat} {t : Tgt} {ft : Rho → Res Bool} {fe : Rho → Res D} : mLcO j vs t ft fe ρ = (match ownL j ρ with
  | some ds => if ds.length ≤ 1000000 then (lcO j ds.length vs t ft fe ds.length ρ).bind fun ys ρ2 => .ok (.list ys) ρ2 else .bad
  | none => .bad) := Eq.trans rfl rfl
end
end Mi
set_option Elab.async false
set_option linter.all false
set_option maxRecDepth 100000
namespace Mi
open PySem PySem.Spec L2
def clrS (i : Nat) : SR → SR
  | .nx ρ => .nx (ρ.set i .un)
  | .bk ρ => .bk (ρ.set i .un)
  | .ct ρ => .ct (ρ.set i .un)
  | .ex _ _ => .bad
  | r => r
def mTryAs (i : Nat) (names : List Str) (mb : Rho → SR) (mh : Str → Rho → SR) : Rho → SR := fun ρ => match mb ρ with
  | .ex n ρ1 => if n ∈ names ∧ i < ρ1.length then clrS i (mh n (ρ1.set i .un)) else .bad
  | r => r
def ExOk (K : PySem.W.Frag) (mg : Str → Option Value) (cS : Value) (n : Str) : Prop := ∃ C, mg n = some (.ref C) ∧ ExcC K C ∧ PySem.W.exmOne K (.ref C) cS = some true
def KiOk (K : PySem.W.Frag) (mg : Str → Option Value) (CY : Addr) (Y n : Str) : Prop := ∀ C, mg n = some (.ref C) → PySem.W.kitOne K (.ref C) (.ref CY) = some (decide (n = Y))
def tSu (g : Gh) (i : Nat) (a : Addr) (f : Rho → SR) : TS := fun D σ H => σ[i]? = some (some (.ref a)) ∧ tS g W0 f D σ H
section
variable {g : Gh} {F H : Hp} {σ : St} {ρ : Rho}
theorem Ok.setHeld {i : Nat} {a : Addr} (ok : Ok g F H σ ρ) (hp : NoPin g i) : Ok g F H (σ.set i (some (.ref a))) (ρ.set i .un) := by
  have := (ok.setFz (i := i) (Dn.exc a "") hp).drop (i := i) hp
  rwa [List.set_set] at this
theorem Ok.setNone {i : Nat} (ok : Ok g F H σ ρ) (hp : NoPin g i) : Ok g F H (σ.set i none) (ρ.set i .un) := by
  have ro : ∀ {j : Nat} {s : Slot}, (ρ.set i .un)[j]? = some s → s = .un ∨ (j ≠ i ∧ ρ[j]? = some s) := fun {j s} h => by
    rcases getElem?_set_eq h with ⟨z, q⟩ | ⟨z, q⟩
    · exact .inl q.symm
    · exact .inr ⟨z, q⟩
  refine ⟨ok.sub, ok.f0, ok.fnew, ok.keep, ok.there, by rw [List.length_set, List.length_set]; exact ok.len, fun j e h => ?_, fun j e h => ?_, fun j k b e1 e2 h1 h2 h3 h4 => ?_, fun j b e h1 h2 => ?_, fun j b h => ?_⟩
  · rcases ro h with q | q
    · cases q
    · rw [List.getElem?_set_ne (fun z => q.1 z.symm)]; exact ok.fz j e q.2
  · rcases ro h with q | q
    · cases q
    · rw [List.getElem?_set_ne (fun z => q.1 z.symm)]; exact ok.ow j e q.2
  · rcases ro h1 with q | q
    · cases q
    rcases ro h2 with q2 | q2
    · cases q2
    rw [List.getElem?_set_ne (fun z => q.1 z.symm)] at h3
    rw [List.getElem?_set_ne (fun z => q2.1 z.symm)] at h4
    exact ok.inj j k b _ _ q.2 q2.2 h3 h4
  · rcases ro h1 with q | q
    · cases q
    rw [List.getElem?_set_ne (fun z => q.1 z.symm)] at h2
    exact ok.own j b _ q.2 h2
  · have ne : i ≠ j := fun z => by subst z; exact hp b h
    rw [List.getElem?_set_ne ne, List.getElem?_set_ne ne]
    exact ok.pin j b h
end
section
variable {X : Cx} {g : Gh} {W : WX} {x n : Str} {CS : Addr} {i : Nat} {body suite : List Stmt} {b₀ : Stmt} {np pos pos' : Pos} {mb : Rho → SR} {mh : Str → Rho → SR}
theorem m_tryAs (i : Nat) (names : List Str) (hp : NoPin g i) (hN : X.N.Nodup) (tk : Takes X W) (hmS : X.mg x = some (.ref CS)) (hx : ∀ n ∈ names, ExOk X.K X.mg (.ref CS) n)
    (hb : ∀ (W' : WX) (pn : List (Addr × Obj)) (xe : Value → Shared → Prop), Takes (X.tr pn xe) W' → PassesOwn (model X.prog X.w) X.A X.env xe → PSs (X.tr pn xe) body (tS g W' mb))
    (hsu : ∀ nm ∈ names, ∀ (a C : Addr) (oe : Obj) (pn : List (Addr × Obj)), X.mg nm = some (.ref C) → ExcC X.K C → Zc (.ref C) none oe → (∃ vs, oe.data = .fields vs) → PSs (X.suite a ((a, oe) :: pn)) (b₀ :: suite) (tSu g i a (mh nm)))
    (hmg : X.mg = g.mg := by rfl) (hs : X.stack = X.env :: X.outer := by rfl) (hf : X.env.frame = some X.env.locals := by rfl) (hi : X.N[i]? = some n := by rfl) (hln : X.env.kindOf n = some .local := by rfl)
    (hg : Gl X x := by rfl) (hdb : (x == ("__debug__" : Str)) = false := by decide) :
    PS X (.Try body [.ExceptHandler (some (.Name x np)) (some n) (b₀ :: suite) pos'] [] [] pos) (tS g W (mTryAs i names mb mh)) := by
  refine ps_mono (ps_try_as (i := i) (tb := fun W' => tS g W' mb) (ts := fun a cls d D σ H => ∃ nm C, nm ∈ names ∧ X.mg nm = some (.ref C) ∧ ExcC X.K C ∧ cls = .ref C ∧ d = none ∧ tSu g i a (mh nm) D σ H) hs hf hN hi hln ⟨hg, hdb, .inl hmS⟩ tk hb fun a oe cls d pn hz hfl => ⟨fun pins s σ H D I h => ?_⟩) fun D σ H h => ?_
  · obtain ⟨nm, C, h1, h2, h3, rfl, rfl, h4⟩ := h
    exact (hsu nm h1 a C oe pn h2 h3 hz hfl).run pins s σ H D I h4
  · obtain ⟨F, ρ, ok, h⟩ := h
    refine ⟨F, ρ, ok, ?_⟩
    unfold mTryAs at h
    cases q : mb ρ with
    | ex nm ρ1 =>
      rw [q] at h
      dsimp only at h
      split at h
      · rename_i hin
        obtain ⟨hin, hlen⟩ := hin
        intro σ' F' H' cls hm ff ok1
        obtain ⟨C, e1, e2, e3⟩ := hx nm hin
        have ec : cls = .ref C := by
          rw [← hmg, e1] at hm
          exact (Option.some.inj hm).symm
        subst ec
        refine ⟨true, e3, fun _ a ha => ⟨nm, C, hin, e1, e2, rfl, rfl, ?_, F', ρ1.set i .un, ok1.setHeld hp, ?_⟩, fun z => by cases z⟩
        · have hl : i < σ'.length := by rw [ok1.len]; exact hlen
          exact List.getElem?_set_self hl
        · have h' := PostS.shift ff h
          cases q2 : mh nm (ρ1.set i .un) with
          | nx ρ2 => rw [q2] at h'; exact fun σ2 F2 H2 f2 o2 => h' _ F2 H2 f2 (o2.setNone hp)
          | bk ρ2 => rw [q2] at h'; exact fun σ2 F2 H2 f2 o2 => h' _ F2 H2 f2 (o2.setNone hp)
          | ct ρ2 => rw [q2] at h'; exact fun σ2 F2 H2 f2 o2 => h' _ F2 H2 f2 (o2.setNone hp)
          | rt d ρ2 => rw [q2] at h'; exact h'
          | rf d ρ2 => rw [q2] at h'; exact h'
          | ex n2 ρ2 => rw [q2] at h'; exact h'.elim
          | bad => rw [q2] at h'; exact h'
      · exact h.elim
    | nx ρ1 => rw [q] at h; exact h
    | bk ρ1 => rw [q] at h; exact h
    | ct ρ1 => rw [q] at h; exact h
    | rt d ρ1 => rw [q] at h; exact h
    | rf d ρ1 => rw [q] at h; exact h
    | bad => rw [q] at h; exact h
variable {a C CY : Addr} {oe : Obj} {pn : List (Addr × Obj)} {e Y y : Str} {p p1 p2 p3 p4 p5 : Pos} {c1 c2 : Expr} {f1 f2 : Rho → Res D} {bb : Bool}
theorem pe_suIf (hE : ExcC X.K C) (hz : Zc (.ref C) none oe) (hfl : ∃ vs, oe.data = .fields vs) (hk : PySem.W.kitOne X.K (.ref C) (.ref CY) = some bb) (hmi : X.mg "isinstance" = none) (hmY : X.mg Y = some (.ref CY))
    (nm : NmAt (X.suite a ((a, oe) :: pn)) i e)
    (h1 : PE (X.suite a ((a, oe) :: pn)) c1 (tE .pure g W0 f1)) (h2 : PE (X.suite a ((a, oe) :: pn)) c2 (tE .pure g W0 f2))
    (hgY : Gl X Y := by rfl) (hdY : (Y == ("__debug__" : Str)) = false := by decide) (hgi : Gl X "isinstance" := by rfl)
    (he : starEach [.Name e p1, .Name Y p2] X.env = (false, eval (.Name e p1) X.env) :: starEach [.Name Y p2] X.env := by rfl) (he2 : starEach [.Name Y p2] X.env = [(false, eval (.Name Y p2) X.env)] := by rfl)
    (hpl : (backTo p3 (starEach [.Name Y p2] X.env)).any (·.1) = false := by rfl)
    (hv : ∀ whole, isTrue (.Call (.Name "isinstance" p) [.Name e p1, .Name Y p2] [] p3) X.env whole = (do let v ← whole; standAt p3; holding [v] (truthy v)) := by intro _; rfl) :
    PE (X.suite a ((a, oe) :: pn)) (.IfExp (.Call (.Name "isinstance" p) [.Name e p1, .Name Y p2] [] p3) c1 c2 p4) (fun σ H Q => σ[i]? = some (some (.ref a)) ∧ tE .pure g W0 (if bb then f1 else f2) σ H Q) :=
  pe_mono (pe_ifExp (pt_val (pe_callB (call_isE hE hz hfl) hgi hmi (by decide +kernel) (pa_cons nm.pe (pa_cons (pe_glob (v := .ref CY) hgY hmY rfl hdY) pa_nil he2) he) (by decide) (by decide) he hpl) hv) h1 h2) fun σ H Q ⟨h0, h⟩ =>
    ⟨_, h0, .ref CY, .ref CY, bb, rfl, (fun _ r => r), hk, bb, rfl, by cases bb <;> exact h⟩
theorem m_suRet (h : PE (X.suite a ((a, oe) :: pn)) c1 (fun σ H Q => σ[i]? = some (some (.ref a)) ∧ tE .pure g W0 f1 σ H Q)) : PSs (X.suite a ((a, oe) :: pn)) [.Return (some c1) pos] (tSu g i a (mRet f1)) :=
  pss_mono (pss_one (ps_ret h)) fun D σ H ⟨h0, F, ρ, ok, h⟩ => ⟨h0, F, ρ, ok, Post.toS ok h fun d ρ1 v F1 H1 st ok1 r h1 => h1 v σ F1 H1 (Same.refl _) ok1 r⟩
theorem m_suSet (j : Nat) (hp : NoPin g j) (hN : X.N.Nodup) (h : PE (X.suite a ((a, oe) :: pn)) c1 (fun σ H Q => σ[i]? = some (some (.ref a)) ∧ tE .pure g W0 f1 σ H Q)) (hi : X.N[j]? = some y := by rfl) (hx : Loc X.env.scope y := by first | exact Or.inl rfl | exact Or.inr rfl)
    (hs : swapsWith c1 (some (.Name y p)) pos.line X.env = pure false := by rfl) (hf : X.fn y = true ∨ X.env.scope.names.lookup y = some .local := by first | exact .inl rfl | exact .inr rfl) : PSs (X.suite a ((a, oe) :: pn)) [.Assign [.Name y p] c1 pos] (tSu g i a (mSet .pure j f1)) :=
  pss_mono (pss_one (ps_set hN hi hx h hs hf)) fun D σ H ⟨h0, F, ρ, ok, h⟩ => ⟨h0, F, ρ, ok, Post.toS ok h fun d ρ1 v F1 H1 st ok1 r h1 => h1 _ F1 H1 (Same.refl _) (ok1.setFz r hp)⟩
end
end Mi
set_option Elab.async false
set_option linter.all false
set_option maxRecDepth 100000
set_option maxHeartbeats 4000000
namespace Mi
open PySem PySem.Spec L2
section
open PySem.SeqAt PySem.MeetsSeq PySem.MeetsSeq2 PySem.MeetsSeq3
open PySem.AutoSeq1 (wpAny_loadPart')
open PySem.F PyProof.Rows
/-- the loop from place i on: what stands ahead of j differs -/
theorem rem_loop (l : Addr) (its : Array Value) (n : Nat) (x : Value) (e : Value → Bool) (j : Nat) (hj : j < its.size) (hit : e its[j] = true) (hz : its.size ≤ sizeLine) (k : Nat) :
    ∀ i : Nat, j - i = k → i ≤ j → (∀ m (hm : m < its.size), i ≤ m → m < j → e its[m] = false) → Meets (Builtin.«list.remove.loop» ⟨[.ref l, x, rawInt i], []⟩)
      (fun A R s => s.heap.get? l = some { cls := .type "list", dict := none, data := .seq its n, slots := #[] } ∧ (∀ y, y ∈ its → EqAt A.in1 s y x (e y)) ∧ R (.ok (.ret .none)) { s with heap := s.heap.update l (Obj.mapSeq fun xs => xs.eraseIdxIfInBounds j) }) := by
  induction k with
  | zero =>
    rintro i hk hij hno prog w A R ⟨hp, gn, dr, tk, os⟩ ⟨hl, he, h⟩
    obtain rfl : i = j := by omega
    wp_walk using wpAny_loadPart' hl
    rw [show its[((i : Nat) : Int).toNat]? = some its[i] by simp [hj]]
    refine wpAny_bind (he _ (Array.getElem_mem hj) prog w _ _ ?_)
    rw [hit]
    have hz' : (its.eraseIdxIfInBounds i).size ≤ sizeLine + 1 := Nat.le_trans (size_erased its _) (Nat.le_succ_of_le hz)
    wp_walk using (wpAny_updateSeq hl rfl (hz := hz) (_hz' := hz')), wpAny_loadPart' hl
    simpa using h
  | succ k ih =>
    rintro i hk hij hno prog w A R ⟨hp, gn, dr, tk, os⟩ ⟨hl, he, h⟩
    have hlt : i < its.size := by omega
    wp_walk using wpAny_loadPart' hl
    rw [show its[((i : Nat) : Int).toNat]? = some its[i] by simp [hlt]]
    refine wpAny_bind (he _ (Array.getElem_mem hlt) prog w _ _ ?_)
    rw [hno i hlt (Nat.le_refl _) (by omega)]
    wp_walk
    rw [show ((i : Int) + 1) = ((i + 1 : Nat) : Int) by omega]
    exact ⟨plainId_quiet plain_remove_loop _, codeAny_builtin entry_remove_loop (by
      rw [Around.under_plainId plain_remove_loop _]
      exact ih (i + 1) (by omega) (by omega) (fun m hm h1 h2 => hno m hm (by omega) h2) prog w A R _ ⟨hl, he, h⟩)⟩
theorem rem_at (l : Addr) (its : Array Value) (n : Nat) (x : Value) (e : Value → Bool) (j : Nat) (hj : j < its.size) (hit : e its[j] = true) (hno : ∀ m (hm : m < its.size), m < j → e its[m] = false) (hz : its.size ≤ sizeLine) :
    Meets (Builtin.«list.remove» ⟨[.ref l, x], []⟩)
      (fun A R s => s.heap.get? l = some { cls := .type "list", dict := none, data := .seq its n, slots := #[] } ∧ (∀ y, y ∈ its → EqAt A.in1 s y x (e y)) ∧ R (.ok (.ret .none)) { s with heap := s.heap.update l (Obj.mapSeq fun xs => xs.eraseIdxIfInBounds j) }) := by
  rintro prog w A R ⟨hp, gn, dr, tk, os⟩ ⟨hl, he, h⟩
  wp_walk using wpAny_loadPart' hl
  exact ⟨plainId_quiet plain_remove_loop _, codeAny_builtin entry_remove_loop (by
    rw [Around.under_plainId plain_remove_loop _]
    exact rem_loop l its n x e j hj hit hz _ 0 rfl (Nat.zero_le _) (fun m hm _ h2 => hno m hm h2) prog w A R _ ⟨hl, he, h⟩)⟩
end
open PyProof.Rows in
def rRemD (K : PySem.W.Frag) : V → List V → Hp → VK → Prop := fun x xs H Q => ∃ (a : Addr) (y : V) (d : PyData) (vs : List V) (ds : List PyData) (j : Nat) (z : PyData), x = V.ref a ∧ xs = [y] ∧ H a = some (.lst vs) ∧ DpAll K H vs ds ∧ Dp K H y d ∧
  inOk d ds = true ∧ ds[j]? = some z ∧ PyData.eqv z d = true ∧ (∀ (m : Nat) (z' : PyData), m < j → ds[m]? = some z' → PyData.eqv z' d = false) ∧ Q .non (upd H a (.lst (vs.eraseIdx j)))
section
variable {X : Cx}
theorem mt_removeD (hu : X.A.units + 64 < cLine) : MtM X "list.remove" (rRemD X.K) := by
  intro pins s σ H x xs v us Q I rx rxs h
  obtain ⟨a, y, d, vs, ds, j, z, rfl, rfl, hH, hds, hy, hok, hz, hzj, hno, q⟩ := h
  cases rx
  obtain ⟨u, rfl, ru⟩ := rxs.one
  obtain ⟨bs, r1⟩ := Dp.reads I d y u hy ru
  unfold inOk at hok
  simp only [Bool.and_eq_true, decide_eq_true_eq] at hok
  obtain ⟨⟨hd, hpl⟩, hdep⟩ := hok
  obtain ⟨zl, its, n, r, hl, e0⟩ := I.lstM hH
  obtain ⟨as, h4⟩ := Dp.readsAll I ds vs its hds r
  have hmap : its.map (SeqAt.readOf s.heap) = ds := SeqAt.readsAll_map_plain ds its as hpl h4
  have hln : its.length = ds.length := by rw [← hmap, List.length_map]
  obtain ⟨hjd, _⟩ := List.getElem?_eq_some_iff.mp hz
  have hj : j < its.toArray.size := by rw [List.size_toArray]; omega
  have at_ : ∀ (m : Nat) (hm : m < its.toArray.size) (z' : PyData), ds[m]? = some z' → SeqAt.readOf s.heap its.toArray[m] = z' := by
    intro m hm z' hz'
    have hml : m < its.length := by simpa using hm
    rw [← hmap, List.getElem?_map, List.getElem?_eq_getElem hml] at hz'
    simpa using hz'
  have eqs := SeqAt.items_plain (A := X.A) (vs := its.toArray) (show ReadsAll s.heap its.toArray.toList ds as from h4) r1 hpl hd (by omega)
  refine call_meets PySem.F.slot_list_remove ⟨_, e0, rfl⟩ PySem.F.entry_list_remove (PySem.F.args_list_remove_2 _ _)
    (rem_at a its.toArray n u (fun y => PyData.eqv (SeqAt.readOf s.heap y) d) j hj ?_ ?_ (by rw [List.size_toArray, ← hl]; exact zl)) ⟨e0, eqs, ?_⟩
  · rw [at_ j hj z hz]; exact hzj
  · intro m hm hmj
    have hmd : m < ds.length := by rw [List.size_toArray] at hm; omega
    rw [at_ m hm ds[m] (List.getElem?_eq_getElem hmd)]
    exact hno m _ hmj (List.getElem?_eq_getElem hmd)
  · refine ⟨.non, _, I.lset (its' := its.eraseIdx j) (t' := s.toks) hH e0 ?_ (r.eraseIdx j) ?_, rfl, q⟩
    · show its.toArray.eraseIdxIfInBounds j = (its.eraseIdx j).toArray
      rw [List.eraseIdxIfInBounds_toArray]
    · have := List.length_eraseIdx_le vs j
      omega
end
/-- the first place that holds what equals d -/
def findD (d : D) : List D → Option Nat
  | [] => none
  | y :: r => if PyData.eqv y d then some 0 else (findD d r).map (· + 1)
theorem findD_is {d : D} : ∀ {ds : List D} {j : Nat}, findD d ds = some j → ∃ z, ds[j]? = some z ∧ PyData.eqv z d = true ∧ ∀ (m : Nat) (z' : PyData), m < j → ds[m]? = some z' → PyData.eqv z' d = false
  | [], j, h => by cases h
  | y :: r, j, h => by
    unfold findD at h
    split at h
    · rename_i q
      cases h
      exact ⟨y, rfl, q, fun m z' hm _ => by omega⟩
    · rename_i q
      obtain ⟨i, hi, rfl⟩ := Option.map_eq_some_iff.mp h
      obtain ⟨z, h1, h2, h3⟩ := findD_is hi
      refine ⟨z, h1, h2, fun m z' hm hz => ?_⟩
      cases m with
      | zero =>
        cases (show some y = some z' from hz)
        simpa using q
      | succ m => exact h3 m z' (by omega) hz
def mRemove (i : Nat) (f : Rho → Res D) : Rho → Res D := fun ρ => match ownL i ρ with
  | none => .bad
  | some _ => (f ρ).bind fun x ρ1 => match ownL i ρ1 with
    | some ds => if inOk x ds = true then (match findD x ds with
      | some j => .ok .none (ρ1.set i (.ow (.list (ds.eraseIdx j))))
      | none => .bad) else .bad
    | none => .bad
@[simp] theorem e_mRemove {i : Nat} {f : Rho → Res D} {ρ : Rho} : mRemove i f ρ = (match ownL i ρ with
  | none => .bad
  | some _ => (f ρ).bind fun x ρ1 => match ownL i ρ1 with
    | some ds => if inOk x ds = true then (match findD x ds with
      | some j => .ok .none (ρ1.set i (.ow (.list (ds.eraseIdx j))))
      | none => .bad) else .bad
    | none => .bad) := Eq.trans rfl rfl
section
variable {X : Cx} {g : Gh} {W : WX} {a : Expr} {pos p : Pos} {f : Rho → Res D} {x : Str} {i : Nat}
theorem m_remove {ap : Pos} (hu : X.A.units + 64 < cLine) (n : NmAt X i x) (ha : PE X a (tE .pure g W f)) (hK : X.K = g.K := by rfl) (hfew : ((backTo pos (starEach [a] X.env)).all (fun x => !x.1) && (backToKw pos (keywordEach [] X.env)).all (fun x => x.1.isSome)
      && decide ([a].length + ([] : List Keyword).length + (if ([] : List Keyword).isEmpty then 0 else 1) < 30)) = true := by rfl)
    (hline : (ap.endLine == pos.line) = true := by rfl) (he : starEach [a] X.env = [(false, eval a X.env)] := by rfl) (hpl : (backTo pos (starEach [] X.env)).any (·.1) = false := by rfl) :
    PE X (.Call (.Attribute (.Name x p) "remove" ap) [a] [] pos) (tE .pure g W (mRemove i f)) :=
  pe_mono (pe_bm PySem.F.plainAttrs_list PySem.F.slot_list_remove PySem.F.type_list_remove (mt_removeD hu) n.pe (pa_cons ha pa_nil he) (by rfl) hfew hline he hpl) fun σ H Q ⟨F, ρ, ok, h⟩ => by
    unfold mRemove at h
    cases q : ownL i ρ with
    | none => rw [q] at h; exact h.elim
    | some ds0 =>
      rw [q] at h
      obtain ⟨a', vs, h1, h2, h3, h4⟩ := own_at ok q
      refine ⟨_, h1, .inl ⟨rfl, _, .of h3⟩, F, ρ, ok, Post.bind h fun d ρ1 v F1 H1 st ok1 hv hp => ?_⟩
      cases q1 : ownL i ρ1 with
      | none => rw [q1] at hp; exact hp.elim
      | some ds =>
        simp only [q1] at hp
        obtain ⟨a2, vs', k1, k2, k3, k4⟩ := own_at ok1 q1
        rw [h1] at k1
        cases k1
        split at hp
        · rename_i hz
          cases q3 : findD d ds with
          | none => rw [q3] at hp; exact hp.elim
          | some j =>
            rw [q3] at hp
            obtain ⟨z, z1, z2, z3⟩ := findD_is q3
            have pl : d.plain = true ∧ PyData.plainAll ds = true := by
              have hz' := hz
              unfold inOk at hz'
              simp only [Bool.and_eq_true, decide_eq_true_eq] at hz'
              exact hz'.1
            rw [hK]
            exact ⟨_, v, d, vs', ds, j, z, rfl, rfl, k3, dna_dp ok1.sub k4 pl.2, dn_dp ok1.sub hv pl.1, hz, z1, z2, z3, hp.mut ok1 q1 h1 (dna_eraseIdx j k4) .non⟩
        · exact hp.elim
end
end Mi
set_option Elab.async false
set_option linter.all false
set_option maxRecDepth 100000
set_option maxHeartbeats 4000000
namespace Mi
open PySem PySem.Spec L2
open PyProof.Rows hiding St
open PySem.W (alike alikeAll dataLt dataLe AllAlike Sortable)
def tupB : D → Bool
  | .tuple (_ :: _) => true
  | _ => false
def othB : D → Bool
  | .tuple _ => false
  | .none => false
  | _ => true
def okSort (ds : List D) : Bool := PyData.plainAll ds && ds.all (fun d => decide (d.depth ≤ 60)) && ds.all (fun d => ds.all fun e => alike d e) && (ds.all tupB || ds.all othB)
def leD2 (a b : D) : Bool := !dataLt b a
def srtD : D → Option D
  | .list ds => if okSort ds = true then some (.list (ds.mergeSort leD2)) else none
  | _ => none
theorem okSort_is {ds : List D} (h : okSort ds = true) : PyData.plainAll ds = true ∧ (∀ d ∈ ds, d.depth ≤ 60) ∧ AllAlike ds ∧ Sortable ds := by
  unfold okSort at h
  simp only [Bool.and_eq_true, List.all_eq_true, decide_eq_true_eq, Bool.or_eq_true] at h
  obtain ⟨⟨⟨h1, h2⟩, h3⟩, h4⟩ := h
  refine ⟨h1, h2, fun d hd e he => h3 d hd e he, h4.imp (fun h d hd => ?_) (fun h d hd => ?_)⟩
  · have := h d hd
    match d, this with
    | .tuple (x :: r), _ => exact ⟨x, r, rfl⟩
  · have := h d hd
    refine ⟨fun e => ?_, fun xs e => ?_⟩
    · subst e; cases this
    · subst e; cases this
theorem each_of : ∀ {xs : List V} {its : List Value} (ds : List D), Vals xs its → xs.length = ds.length → PySem.W.EachIs (fun (u : Value) (p : V × D) => RelV p.1 u) its (xs.zip ds)
  | _, _, [], .nil, _ => .nil
  | _, _, d :: ds, .cons h q, hl => .cons h (each_of ds q (by simpa using hl))
  | _, _, _ :: _, .nil, hl => by simp at hl
  | _, _, [], .cons _ _, hl => by simp at hl
theorem vals_of_each : ∀ {out : List Value} {ps : List (V × D)}, PySem.W.EachIs (fun (u : Value) (p : V × D) => RelV p.1 u) out ps → Vals (ps.map (·.1)) out
  | _, _, .nil => .nil
  | _, _, .cons h q => .cons h (vals_of_each q)
theorem zip_fst {xs : List V} {ds : List D} (h : xs.length = ds.length) : (xs.zip ds).map (·.2) = ds := List.map_snd_zip (by omega)
theorem dpa_len {K : PySem.W.Frag} {H : Hp} : ∀ {vs : List V} {ds : List D}, DpAll K H vs ds → vs.length = ds.length
  | _, _, .nil => rfl
  | _, _, .cons _ q => by rw [List.length_cons, List.length_cons, dpa_len q]
def rSortedD (K : PySem.W.Frag) : List V → Hp → VK → Prop := fun vs H Q => ∃ (a : Addr) (xs : List V) (ds : List D), vs = [V.ref a] ∧ SqL K H a xs ∧ DpAll K H xs ds ∧ okSort ds = true ∧
  ∀ p, H p = none → Q (.ref p) (upd H p (.lst (((xs.zip ds).mergeSort (dataLe false (fun p : V × D => p.2))).map (·.1))))
section
variable {X : Cx}
theorem cr_sortedD (hu : X.A.units + 64 < cLine) : CallR X (.builtin "sorted") (rSortedD X.K) := by
  intro pins s σ H vs us Q I r h
  obtain ⟨a, xs, ds, rfl, hs, hd, ho, q⟩ := h
  obtain ⟨o1, o2, o3, o4⟩ := okSort_is ho
  obtain ⟨its, rv, hl, hz⟩ := I.list hs
  rw [Vals.ref1 r]
  obtain ⟨as, ra⟩ := Dp.readsAll I ds xs its hd rv
  have hlen := dpa_len hd
  have ez : (xs.zip ds).map (·.2) = ds := zip_fst hlen
  have hzl : (xs.zip ds).length = xs.length := by rw [List.length_zip]; omega
  have rall : ReadsAll s.heap its ((xs.zip ds).map (·.2)) as := by rw [ez]; exact ra
  refine PySem.W.sorted_data (bs := xs.zip ds) (enc := fun p : V × D => p.2) (R := fun (u : Value) (p : V × D) => RelV p.1 u) hl.isList (each_of ds rv hlen) (PySem.W.readsAll_each (fun p : V × D => p.2) rall) (by rw [ez]; exact o3) (by rw [ez]; exact o4) (by rw [hzl]; exact hz) (fun b hb => ?_) fun out h1 h2 => ?_
  · have : b.2 ∈ ds := by rw [← ez]; exact List.mem_map_of_mem hb
    have := o2 _ this
    omega
  · obtain ⟨ep, he'⟩ := PyProof.Rows.sortedAll_at s.heap its out.toArray
    have hlen2 : (((xs.zip ds).mergeSort (dataLe false (fun p : V × D => p.2))).map (·.1)).length ≤ sizeLine := by
      rw [List.length_map, List.length_mergeSort, hzl]
      exact hz
    exact ⟨.ref _, upd H (s.heap.objs.size + 1) (.lst (((xs.zip ds).mergeSort (dataLe false (fun p : V × D => p.2))).map (·.1))), I.laid (t' := s.toks) (fun _ _ => PyProof.Rows.sortedAll_old) (Nat.le_succ _) ⟨hlen2, out, ep, vals_of_each h2, he'⟩, rfl, q _ (I.hok.fresh (Nat.le_succ _))⟩
end
theorem dna_zip {K : PySem.W.Frag} {F : Hp} : ∀ {vs : List V} {ds : List D}, DnAll K F vs ds → ∀ p ∈ vs.zip ds, Dn K F p.1 p.2
  | _, _, .nil, p, hp => by cases hp
  | _, _, .cons h q, p, hp => by
    rcases List.mem_cons.mp hp with rfl | hp
    · exact h
    · exact dna_zip q p hp
theorem dna_pairs {K : PySem.W.Frag} {F : Hp} : ∀ {ps : List (V × D)}, (∀ p ∈ ps, Dn K F p.1 p.2) → DnAll K F (ps.map (·.1)) (ps.map (·.2))
  | [], _ => .nil
  | p :: ps, h => .cons (h p (by simp)) (dna_pairs fun q hq => h q (by simp [hq]))
theorem map_sort {xs : List V} {ds : List D} (hlen : xs.length = ds.length) : ((xs.zip ds).mergeSort (dataLe false (fun p : V × D => p.2))).map (·.2) = ds.mergeSort leD2 := by
  have := List.map_mergeSort (r := dataLe false (fun p : V × D => p.2)) (s := leD2) (f := fun p : V × D => p.2) (l := xs.zip ds) (fun a _ b _ => rfl)
  rw [this, zip_fst hlen]
section
variable {X : Cx} {g : Gh} {W : WX} {a b c tg : Expr} {pos p p2 : Pos} {f k l : Rho → Res D} {ks : Rho → Res (List D)} {m : RM}
theorem m_sorted (hu : X.A.units + 64 < cLine) (hm : X.mg "sorted" = none) (ha : PE X a (tE .pure g W f)) (hK : X.K = g.K := by rfl) (hg : Gl X "sorted" := by rfl)
    (na : starEach [a] X.env = [(false, eval a X.env)] := by rfl) (hpl : (backTo pos (starEach [] X.env)).any (·.1) = false := by rfl) :
    PE X (.Call (.Name "sorted" p) [a] [] pos) (tE .fresh g W (mUn srtD f)) :=
  pe_mono (pe_callB (cr_sortedD hu) hg hm (by decide +kernel) (pa_cons ha pa_nil na) (by decide) (by decide) na hpl) fun σ H Q ⟨F, ρ, ok, h⟩ => by
    refine ⟨F, ρ, ok, Post.bind h fun d ρ1 x F1 H1 st ok1 hx h1 => ?_⟩
    cases d with
    | list ds =>
      by_cases z : okSort ds = true
      · simp only [srtD, if_pos z, ofOpt_some] at h1
        cases hx with
        | lst hf hds =>
          rename_i pa vs
          have hlen := dna_len hds
          rw [hK]
          refine ⟨pa, vs, ds, rfl, .of (ok1.sub _ _ hf), dna_dp ok1.sub hds (okSort_is z).1, z, fun q hq => ?_⟩
          rw [← map_sort hlen] at h1
          refine Post.newL h1 ok1 (dna_pairs fun p hp => ?_) hq
          exact dna_zip hds p (List.mem_mergeSort.mp hp)
      · simp only [srtD, if_neg z] at h1; exact h1.elim
    | _ => exact h1.elim
end
@[simp] theorem e_srtD {ds : List D} : srtD (.list ds) = (if okSort ds = true then some (.list (ds.mergeSort leD2)) else none) := Eq.trans rfl rfl
end Mi
set_option Elab.async false
set_option linter.all false
set_option maxRecDepth 100000
set_option maxHeartbeats 4000000
namespace Mi
open PySem PySem.Spec L2
open PyProof.Rows hiding St
open PySem.W (alike alikeAll dataLt AlikeAll iter_tupleW min_list_data cmpIn_lt moved_old readsAll_at)
section
variable {prog : Program} {w : World} {A : Around} {E : Value → Shared → Prop} {s : Shared}
/-- min(a, b), the two compared where H stands -/
theorem call_min_twoH {a b : Value} {Q : Value → Shared → Prop}
    (h : wpAny (model prog w) A.in1 (pyIter (.ref s.heap.objs.size)) (fun it s₂ => ∃ I fp wr G n P St H bt, it = .ref I ∧ WalksS prog w A.in1 I fp wr G n P St ∧ St 0 s₂ ∧ (∀ b ∈ fp, b < s₂.heap.objs.size) ∧ 0 < n ∧
      (∀ b o, H.get? b = some o → b ∉ wr) ∧ (∀ b o, H.get? b = some o → s₂.heap.get? b = some o) ∧ CmpIn prog w A.in1 .Lt H P bt ∧ ∀ v s', P (argBest bt (n - 1)) v → Moved wr G s₂ s' → Q v s') E
      { s with heap := s.heap.push { cls := .type "tuple", data := .seq #[a, b] } }) :
    wpAny (model prog w) A (call (.builtin "min") [a, b]) Q E s := by
  have hname : (toString "min" ++ toString ".loop" : String) = "min.loop" := by decide
  refine call_function_tree F.kind_min F.plain_min F.entry_min (F.args_min2 _ _) ?_
  show wpAny _ A.in1 (Builtin.Builtins.bindParams "min" ["key", "default"] 0 ⟨[], []⟩ >>= _) _ _ s
  refine wpAny_bind (wpAny_of_eq (show Builtin.Builtins.bindParams "min" ["key", "default"] 0 ⟨[], []⟩ = pure [none, none] from rfl) ?_)
  show wpAny _ A.in1 (newTuple [a, b] >>= _) _ _ s
  refine wpAny_bind (wpAny_newObj_type ?_)
  refine wpAny_bind (wpAny_mono h (fun it s₂ h₂ => ?_) fun _ _ e => e)
  obtain ⟨I, fp, wr, G, n, P, St, H, bt, rfl, W, hst, hfp, hn, hw, hkeep, hcmp, hQ⟩ := h₂
  refine wpAny_bind (wpAny_newObj_type ?_)
  have hSf : s₂.heap.objs.size ∉ fp := fun hm => Nat.lt_irrefl _ (hfp _ hm)
  rw [hname]
  refine wpAny_pure ⟨plainId_quiet F.plain_min_loop _, codeAny_min_loop_firstH W H hw bt hcmp s₂.heap.objs.size hSf (fresh_in hkeep) _ hn (fun b o e => Heap.get?_push_of_some _ (hkeep b o e)) (W.frame 0 s₂ _ s₂.toks hst (Nat.le_refl _) fun b _ o e => Heap.get?_push_of_some _ e) (Heap.get?_push_size _ rfl) fun v s' hP hm => ?_⟩
  exact hQ v s' hP (Moved.drop_new (tk := s₂.toks) hm (Nat.le_refl _))
/-- min(a, b) of alike data -/
theorem min_two_data {a b : Value} {da db : D} {as bs : List Addr} {Q : Value → Shared → Prop} (hh : A.handled = none) (ra : Reads s.heap a da as) (rb : Reads s.heap b db bs) (ha : AlikeAll [da, db]) (hu : A.units + 1 + PyData.depthAll [da, db] < cLine)
    (h : ∀ h' tk, (∀ c o, s.heap.get? c = some o → h'.get? c = some o) → Q (if dataLt db da = true then b else a) { s with heap := h', toks := tk }) :
    wpAny (model prog w) A (call (.builtin "min") [a, b]) Q E s := by
  have hT : (s.heap.push { cls := .type "tuple", data := .seq #[a, b] }).IsTuple s.heap.objs.size #[a, b] := ⟨_, Heap.get?_push_size _ rfl, rfl, 0, rfl⟩
  have hr : ReadsAll (s.heap.push { cls := .type "tuple", data := .seq #[a, b] }) (#[a, b] : Array Value).toList [da, db] (as ++ (bs ++ [])) :=
    .cons (Reads.keeps (fun _ _ e => Heap.get?_push_of_some _ e) ra) (.cons (Reads.keeps (fun _ _ e => Heap.get?_push_of_some _ e) rb) .nil)
  refine call_min_twoH (iter_tupleW (A := A.in1) (s := { s with heap := s.heap.push { cls := .type "tuple", data := .seq #[a, b] } }) hh hT fun s₂ e W st hfp hw hk => ?_)
  refine ⟨_, _, _, _, _, _, _, s.heap.push { cls := .type "tuple", data := .seq #[a, b] }, _, rfl, W, st, hfp, by simp, hw, hk, cmpIn_lt (A := A.in1) (s := { s with heap := s.heap.push { cls := .type "tuple", data := .seq #[a, b] } }) hr ha (by show A.units + 1 + _ < _; exact hu), fun v s' hP m => ?_⟩
  obtain ⟨h', tk, rfl, hk'⟩ := moved_old (s := { s with heap := s.heap.push { cls := .type "tuple", data := .seq #[a, b] } }) e rfl m
  have q := h h' tk fun c o e => hk' c o (Heap.get?_push_of_some _ e)
  have hv : v = if dataLt db da = true then b else a := by
    have hP' : (#[a, b] : Array Value)[argBest (fun i j => dataLt ([da, db].getD i .none) ([da, db].getD j .none)) 1]? = some v := hP
    by_cases hb : dataLt db da = true
    · have e : argBest (fun i j => dataLt ([da, db].getD i .none) ([da, db].getD j .none)) 1 = 1 := by simp [argBest, hb]
      rw [e] at hP'
      rw [if_pos hb]
      simpa using hP'.symm
    · have e : argBest (fun i j => dataLt ([da, db].getD i .none) ([da, db].getD j .none)) 1 = 0 := by simp [argBest, hb]
      rw [e] at hP'
      rw [if_neg hb]
      simpa using hP'.symm
  rw [hv]
  exact q
end
def notNone : D → Bool
  | .none => false
  | _ => true
def okMin (ds : List D) : Bool := PyData.plainAll ds && decide (PyData.depthAll ds ≤ 50) && ds.all (fun d => ds.all fun e => alike d e) && ds.all notNone
theorem okMin_is {ds : List D} (h : okMin ds = true) : PyData.plainAll ds = true ∧ PyData.depthAll ds ≤ 50 ∧ AlikeAll ds := by
  unfold okMin at h
  simp only [Bool.and_eq_true, List.all_eq_true, decide_eq_true_eq] at h
  obtain ⟨⟨⟨h1, h2⟩, h3⟩, h4⟩ := h
  exact ⟨h1, h2, fun x hx y hy => h3 x hx y hy, fun x hx e => by have := h4 x hx; subst e; cases this⟩
def minLD : List D → Option D
  | [.list (x :: xs)] => if okMin (x :: xs) = true then some (PySem.W.minD x xs) else none
  | _ => none
def minTD : List D → Option D
  | [x, y] => if okMin [x, y] = true then some (if dataLt y x = true then y else x) else none
  | _ => none
theorem minD_mem (x : D) : ∀ xs : List D, PySem.W.minD x xs ∈ x :: xs := by
  intro xs
  unfold PySem.W.minD
  have gen : ∀ (ys : List D) (a : D), a ∈ x :: xs → (∀ y ∈ ys, y ∈ x :: xs) → ys.foldl (fun a y => if dataLt y a then y else a) a ∈ x :: xs := by
    intro ys
    induction ys with
    | nil => intro a ha _; exact ha
    | cons y ys ih =>
      intro a ha hy
      rw [List.foldl_cons]
      refine ih _ ?_ fun z hz => hy z (by simp [hz])
      split
      · exact hy y (by simp)
      · exact ha
  exact gen xs x (by simp) fun y hy => by simp [hy]
def rMinL (K : PySem.W.Frag) : List V → Hp → VK → Prop := fun vs H Q => ∃ (a : Addr) (xs : List V) (d : D) (ds : List D), vs = [V.ref a] ∧ SqL K H a xs ∧ DpAll K H xs (d :: ds) ∧ okMin (d :: ds) = true ∧
  ∀ (i : Nat) (x : V), xs[i]? = some x → (d :: ds)[i]? = some (PySem.W.minD d ds) → Q x H
def rMinT (K : PySem.W.Frag) : List V → Hp → VK → Prop := fun vs H Q => ∃ (x y : V) (d e : D), vs = [x, y] ∧ Dp K H x d ∧ Dp K H y e ∧ okMin [d, e] = true ∧ Q (if dataLt e d = true then y else x) H
theorem vals_at : ∀ {xs : List V} {its : List Value}, Vals xs its → ∀ {i : Nat} {u : Value}, its[i]? = some u → ∃ x, xs[i]? = some x ∧ RelV x u
  | _, _, .nil, i, u, h => by simp at h
  | _, _, .cons r q, 0, u, h => ⟨_, rfl, by cases (show some _ = some u from h); exact r⟩
  | _, _, .cons r q, i + 1, u, h => vals_at q (by simpa using h)
section
variable {X : Cx}
theorem cr_minL (hc : X.calm = true) (hu : X.A.units + 64 < cLine) : CallR X (.builtin "min") (rMinL X.K) := by
  intro pins s σ H vs us Q I r h
  obtain ⟨a, xs, d, ds, rfl, hs, hd, ho, q⟩ := h
  obtain ⟨o1, o2, o3⟩ := okMin_is ho
  obtain ⟨its, rv, hl, hz⟩ := I.list hs
  rw [Vals.ref1 r]
  obtain ⟨as, ra⟩ := Dp.readsAll I (d :: ds) xs its hd rv
  refine min_list_data (vs := its.toArray) (I.ok.hd hc) hl.isList (by simpa using ra) o3 (by omega) fun i v h' tk bs hv hb kk => ?_
  have hv' : its[i]? = some v := by simpa using hv
  obtain ⟨x, hx, rx⟩ := vals_at rv hv'
  obtain ⟨bs2, r2, i1, m2, _⟩ := readsAll_at ra i v hv'
  have e1 : (d :: ds).getD i .none = PySem.W.minD d ds := PySem.W.alike_unique _ _ v bs2 bs (o3.1 _ m2 _ (minD_mem d ds)) (Reads.keeps kk r2) hb
  refine ⟨x, H, I.kept (t' := tk) kk, rx, q i x hx ?_⟩
  rw [← e1, List.getD, List.getElem?_eq_getElem i1]
  rfl
theorem cr_minT (hc : X.calm = true) (hu : X.A.units + 64 < cLine) : CallR X (.builtin "min") (rMinT X.K) := by
  intro pins s σ H vs us Q I r h
  obtain ⟨x, y, d, e, rfl, hx, hy, ho, q⟩ := h
  obtain ⟨o1, o2, o3⟩ := okMin_is ho
  obtain ⟨u, w', rfl, ru, rw'⟩ := vals2 r
  obtain ⟨as, ra⟩ := Dp.reads I d x u hx ru
  obtain ⟨bs, rb⟩ := Dp.reads I e y w' hy rw'
  refine min_two_data (I.ok.hd hc) ra rb o3 (by omega) fun h' tk kk => ⟨_, H, I.kept (t' := tk) kk, ?_, q⟩
  split
  · exact rw'
  · exact ru
end
section
variable {g : Gh} {W : WX}
theorem cm_minL : CaM g W .pure (rMinL g.K) minLD := by
  intro σ F H ρ xs ds z Q ok hx ho h
  unfold minLD at ho
  split at ho
  · rename_i x ys
    split at ho
    · rename_i hk
      cases ho
      cases hx with
      | cons h1 h2 =>
        cases h2
        cases h1 with
        | lst hf hds =>
          rename_i a vs
          refine ⟨a, vs, x, ys, rfl, .of (ok.sub _ _ hf), dna_dp ok.sub hds (okMin_is hk).1, hk, fun i v hi hm => ?_⟩
          obtain ⟨d, e1, e2⟩ := dna_getV hds hi
          rw [hm] at e1
          cases e1
          exact h.done ok e2
    · cases ho
  · cases ho
theorem cm_minT : CaM g W .pure (rMinT g.K) minTD := by
  intro σ F H ρ xs ds z Q ok hx ho h
  unfold minTD at ho
  split at ho
  · rename_i x y
    split at ho
    · rename_i hk
      cases ho
      cases hx with
      | cons h1 h2 =>
        cases h2 with
        | cons h3 h4 =>
          cases h4
          have pl := (okMin_is hk).1
          have p1 : x.plain = true := (Bool.and_eq_true_iff.mp pl).1
          have p2 : y.plain = true := (Bool.and_eq_true_iff.mp (Bool.and_eq_true_iff.mp pl).2).1
          refine ⟨_, _, x, y, rfl, dn_dp ok.sub h1 p1, dn_dp ok.sub h3 p2, hk, h.done ok ?_⟩
          split
          · exact h3
          · exact h1
    · cases ho
  · cases ho
end
@[simp] theorem e_minLD {x : D} {xs : List D} : minLD [.list (x :: xs)] = (if okMin (x :: xs) = true then some (PySem.W.minD x xs) else none) := Eq.trans rfl rfl
@[simp] theorem e_minTD {x y : D} : minTD [x, y] = (if okMin [x, y] = true then some (if dataLt y x = true then y else x) else none) := Eq.trans rfl rfl
end Mi
set_option Elab.async false
set_option linter.all false
set_option maxRecDepth 100000
set_option maxHeartbeats 4000000
namespace Mi
open PySem PySem.Spec L2

def keyOf : D → Option Key
  | .int i => some (.inl i)
  | .str s => some (.inr s)
  | _ => none
def keysOf : List D → Option (List Key)
  | [] => some []
  | d :: r => (keyOf d).bind fun k => (keysOf r).map (k :: ·)
def tkeyOf : D → Option (List Key)
  | .tuple ds => keysOf ds
  | _ => none
theorem keyOf_D (k : Key) : keyOf (keyD k) = some k := by cases k <;> rfl
theorem keysOf_D : ∀ ks : List Key, keysOf (ks.map keyD) = some ks
  | [] => rfl
  | k :: ks => by rw [List.map_cons, keysOf, keyOf_D, keysOf_D ks]; rfl
theorem tkeyOf_D (ks : List Key) : tkeyOf (keysD ks) = some ks := keysOf_D ks
theorem keyD_of {d : D} {k : Key} (h : keyOf d = some k) : d = keyD k := by
  unfold keyOf at h
  split at h <;> cases h <;> rfl
theorem keysD_of : ∀ {ds : List D} {ks : List Key}, keysOf ds = some ks → ds = ks.map keyD
  | [], ks, h => by cases h; rfl
  | d :: ds, ks, h => by
    unfold keysOf at h
    obtain ⟨k, h1, h2⟩ := Option.bind_eq_some_iff.mp h
    obtain ⟨r, h3, h4⟩ := Option.map_eq_some_iff.mp h2
    subst h4
    rw [keyD_of h1, keysD_of h3]
    rfl
theorem tkeyD_of {d : D} {ks : List Key} (h : tkeyOf d = some ks) : d = keysD ks := by
  unfold tkeyOf at h
  split at h
  · rw [keysD_of h]; rfl
  · cases h
theorem dn_key {K : PySem.W.Frag} {F : Hp} {v : V} {k : Key} (h : Dn K F v (keyD k)) : v = kV k := by
  cases k with
  | inl i => cases (show Dn K F v (.int i) from h); rfl
  | inr s => cases (show Dn K F v (.str s) from h); rfl
theorem dna_keys {K : PySem.W.Frag} {F : Hp} : ∀ {vs : List V} {ks : List Key}, DnAll K F vs (ks.map keyD) → vs = ks.map kV
  | _, [], h => by cases h; rfl
  | _, k :: ks, h => by
    rw [List.map_cons] at h
    cases h with
    | cons a t => rw [dn_key a, dna_keys t]; rfl
theorem dna_of_keys {K : PySem.W.Frag} {F : Hp} : ∀ (ks : List Key), DnAll K F (ks.map kV) (ks.map keyD)
  | [] => .nil
  | .inl i :: ks => .cons (.int i) (dna_of_keys ks)
  | .inr s :: ks => .cons (.str s) (dna_of_keys ks)
section
variable {κ : Type} [DecidableEq κ]
def findE (ko : D → Option κ) (es : List (D × D)) (k : κ) : Option D := (es.find? fun e => decide (ko e.1 = some k)).map (·.2)
def putE (ko : D → Option κ) (es : List (D × D)) (kd : D) (k : κ) (v : D) : List (D × D) :=
  if (es.any fun e => decide (ko e.1 = some k)) = true then es.map (fun e => if ko e.1 = some k then (e.1, v) else e) else es ++ [(kd, v)]
def OptRel (K : PySem.W.Frag) (F : Hp) : Option V → Option D → Prop
  | some v, some d => Dn K F v d
  | none, none => True
  | _, _ => False
variable {K : PySem.W.Frag} {F : Hp} {f : κ → D} {ko : D → Option κ}
theorem ent_cons (p : κ × V) (kvs : List (κ × V)) (d : D) (ds : List D) : entD f (p :: kvs) (d :: ds) = (f p.1, d) :: entD f kvs ds := rfl
theorem find_ent (hf : ∀ k, ko (f k) = some k) (k : κ) : ∀ {kvs : List (κ × V)} {ds : List D}, DnAll K F (kvs.map Prod.snd) ds → OptRel K F (valV kvs k) (findE ko (entD f kvs ds) k)
  | [], _, h => by cases h; trivial
  | p :: kvs, _, h => by
    rw [List.map_cons] at h
    cases h with
    | cons a t =>
      rename_i d ds
      have ih := find_ent hf k t
      rw [ent_cons]
      unfold findE at ih ⊢
      by_cases e : p.1 = k
      · rw [valV_pos e, List.find?_cons_of_pos (by rw [hf, e]; simp)]
        exact a
      · rw [valV_neg e, List.find?_cons_of_neg (by rw [hf]; simpa using e)]
        exact ih
theorem any_ent (hf : ∀ k, ko (f k) = some k) (k : κ) : ∀ {kvs : List (κ × V)} {ds : List D}, kvs.length = ds.length → ((entD f kvs ds).any fun e => decide (ko e.1 = some k)) = kvs.any fun kv => decide (kv.1 = k)
  | [], [], _ => rfl
  | p :: kvs, d :: ds, h => by
    rw [ent_cons, List.any_cons, List.any_cons, any_ent hf k (by simpa using h)]
    simp [hf]
  | [], d :: ds, h => by cases h
  | p :: kvs, [], h => by cases h
theorem repl_ent (hf : ∀ k, ko (f k) = some k) (k : κ) {v : V} {d : D} (hv : Dn K F v d) : ∀ {kvs : List (κ × V)} {ds : List D}, DnAll K F (kvs.map Prod.snd) ds →
    ∃ ds', DnAll K F ((kvs.map fun kv => if kv.1 = k then (kv.1, v) else kv).map Prod.snd) ds' ∧ (entD f kvs ds).map (fun e => if ko e.1 = some k then (e.1, d) else e) = entD f (kvs.map fun kv => if kv.1 = k then (kv.1, v) else kv) ds'
  | [], _, h => by cases h; exact ⟨[], .nil, rfl⟩
  | p :: kvs, _, h => by
    rw [List.map_cons] at h
    cases h with
    | cons a t =>
      rename_i e ds
      obtain ⟨ds', h1, h2⟩ := repl_ent hf k hv t
      by_cases q : p.1 = k
      · refine ⟨d :: ds', ?_, ?_⟩
        · rw [List.map_cons, List.map_cons, if_pos q]; exact .cons hv h1
        · rw [ent_cons, List.map_cons, h2, List.map_cons, if_pos q, if_pos (by rw [hf, q])]; rfl
      · refine ⟨e :: ds', ?_, ?_⟩
        · rw [List.map_cons, List.map_cons, if_neg q]; exact .cons a h1
        · rw [ent_cons, List.map_cons, h2, List.map_cons, if_neg q, if_neg (by rw [hf]; simpa using q)]; rfl
theorem put_ent (hf : ∀ k, ko (f k) = some k) (k : κ) {v : V} {d : D} (hv : Dn K F v d) {kvs : List (κ × V)} {ds : List D} (h : DnAll K F (kvs.map Prod.snd) ds) :
    ∃ ds', DnAll K F ((putK kvs k v).map Prod.snd) ds' ∧ putE ko (entD f kvs ds) (f k) k d = entD f (putK kvs k v) ds' := by
  have hl : kvs.length = ds.length := by rw [← dna_len h, List.length_map]
  unfold putE putK
  rw [any_ent hf k hl]
  by_cases q : (kvs.any fun kv => decide (kv.1 = k)) = true
  · rw [if_pos q, if_pos q]
    exact repl_ent hf k hv h
  · rw [if_neg q, if_neg q]
    refine ⟨ds ++ [d], ?_, ?_⟩
    · rw [List.map_append]; exact dna_app h (.cons hv .nil)
    · unfold entD
      rw [List.map_append, List.zip_append (by rw [List.length_map]; exact hl)]
      rfl
theorem ent_len {kvs : List (κ × V)} {ds : List D} (h : DnAll K F (kvs.map Prod.snd) ds) : (entD f kvs ds).length = kvs.length := by
  have hl : kvs.length = ds.length := by rw [← dna_len h, List.length_map]
  unfold entD
  rw [List.length_zip, List.length_map]; omega
theorem ent_keys {kvs : List (κ × V)} {ds : List D} (h : DnAll K F (kvs.map Prod.snd) ds) : (entD f kvs ds).map (·.1) = kvs.map fun p => f p.1 := by
  have hl : kvs.length = ds.length := by rw [← dna_len h, List.length_map]
  unfold entD
  exact List.map_fst_zip (by rw [List.length_map]; omega)
end
def lookD : D → D → Option (Option D)
  | .dict ((.bool false, .none) :: es), y => (keyOf y).map fun k => findE keyOf es k
  | .dict ((.bool true, .none) :: es), y => (tkeyOf y).map fun k => findE tkeyOf es k
  | _, _ => none
def dgetD (d y : D) : Option D := (lookD d y).bind id
def putD : D → D → D → Option D
  | .dict ((.bool false, .none) :: es), y, v => if es.length < 1000000 then (keyOf y).map fun k => .dict ((.bool false, .none) :: putE keyOf es y k v) else none
  | .dict ((.bool true, .none) :: es), y, v => if es.length < 1000000 then (tkeyOf y).map fun k => .dict ((.bool true, .none) :: putE tkeyOf es y k v) else none
  | _, _, _ => none
def keysL : D → Option (List D)
  | .dict ((.bool false, .none) :: es) => some (es.map (·.1))
  | .dict ((.bool true, .none) :: es) => some (es.map (·.1))
  | _ => none
def isDct : D → Bool
  | .dict ((.bool _, .none) :: _) => true
  | _ => false
/-- a dict that stands at a, own or locked -/
inductive DctAt (K : PySem.W.Frag) (F H : Hp) (a : Addr) : D → Prop
  | k {kvs : List (Key × V)} {ds : List D} : Rd H a (.dK kvs) → DnAll K F (kvs.map Prod.snd) ds → DctAt K F H a (.dict ((.bool false, .none) :: entD keyD kvs ds))
  | t {kvs : List (List Key × V)} {ds : List D} : Rd H a (.dT kvs) → DnAll K F (kvs.map Prod.snd) ds → DctAt K F H a (.dict ((.bool true, .none) :: entD keysD kvs ds))
section
variable {K : PySem.W.Frag} {F H : Hp} {a : Addr} {x y v : V} {d e w : D}
theorem dn_dct (s : Same F H) (h : Dn K F x d) (hd : isDct d = true) : ∃ a, x = .ref a ∧ DctAt K F H a d := by
  cases h <;> simp only [isDct, Bool.false_eq_true] at hd
  · rename_i h1 h2 h3
    subst h3
    exact ⟨_, rfl, .k (.inr ⟨_, s _ _ h1⟩) h2⟩
  · rename_i h1 h2 h3
    subst h3
    exact ⟨_, rfl, .t (.inr ⟨_, s _ _ h1⟩) h2⟩
theorem own_dct (h : OwnD K F H a d) (hd : isDct d = true) : DctAt K F H a d := by
  cases h with
  | lst _ _ _ => cases hd
  | dK _ h1 h2 h3 => subst h3; exact .k (.inl h1) h2
  | dT _ h1 h2 h3 => subst h3; exact .t (.inl h1) h2
theorem DctAt.isD (h : DctAt K F H a d) : IsD H a := by
  cases h with
  | k r _ => exact .inl ⟨_, r⟩
  | t r _ => exact .inr ⟨_, r⟩
theorem look_at {o : Option D} (hd : DctAt K F H a d) (hy : Dn K F y e) (s : Same F H) (h : lookD d e = some o) : ∃ r, DGet H a y r ∧ OptRel K F r o := by
  cases hd with
  | k r t =>
    obtain ⟨k, h1, h2⟩ := Option.map_eq_some_iff.mp h
    subst h2
    have e1 := keyD_of h1
    subst e1
    exact ⟨_, .inl ⟨_, k, r, dn_key hy, rfl⟩, find_ent keyOf_D k t⟩
  | t r t =>
    obtain ⟨ks, h1, h2⟩ := Option.map_eq_some_iff.mp h
    subst h2
    have e1 := tkeyD_of h1
    subst e1
    cases (show Dn K F y (.tuple (ks.map keyD)) from hy) with
    | tup hf hds =>
      rw [dna_keys hds] at hf
      exact ⟨_, .inr ⟨_, ks, _, r, rfl, s _ _ hf, rfl⟩, find_ent tkeyOf_D ks t⟩
theorem put_at {d' : D} (hd : OwnD K F H a d) (hy : Dn K F y e) (hv : Dn K F v w) (s : Same F H) (h : putD d e w = some d') : ∃ o', DPut H a y v (upd H a o') ∧ OwnD K F (upd H a o') a d' := by
  have z : (1000000 : Nat) < sizeLine := by rw [sizeLine_eq]; omega
  cases hd with
  | lst _ _ _ => cases h
  | dK f1 h1 t q =>
    subst q
    unfold putD at h
    dsimp only at h
    split at h
    · rename_i hz
      rw [ent_len t] at hz
      obtain ⟨k, e1, e2⟩ := Option.map_eq_some_iff.mp h
      subst e2
      have e3 := keyD_of e1
      subst e3
      obtain ⟨ds', q1, q2⟩ := put_ent keyOf_D k hv t
      exact ⟨_, .inl ⟨_, k, h1, dn_key hy, by omega, rfl⟩, .dK f1 upd_same q1 (by rw [q2])⟩
    · cases h
  | dT f1 h1 t q =>
    subst q
    unfold putD at h
    dsimp only at h
    split at h
    · rename_i hz
      rw [ent_len t] at hz
      obtain ⟨ks, e1, e2⟩ := Option.map_eq_some_iff.mp h
      subst e2
      have e3 := tkeyD_of e1
      subst e3
      obtain ⟨ds', q1, q2⟩ := put_ent tkeyOf_D ks hv t
      cases (show Dn K F y (.tuple (ks.map keyD)) from hy) with
      | tup hf hds =>
        rw [dna_keys hds] at hf
        exact ⟨_, .inr ⟨_, ks, _, h1, rfl, s _ _ hf, by omega, rfl⟩, .dT f1 upd_same q1 (by rw [q2])⟩
    · cases h
theorem optRel_getD {r : Option V} {o : Option D} (h : OptRel K F r o) (hz : Dn K F v w) : Dn K F (r.getD v) (o.getD w) := by
  cases r <;> cases o
  · exact hz
  · exact h.elim
  · exact h.elim
  · exact h
end
theorem pe_lockEnd {X : Cx} {e : Expr} {t : TE} (h : PE X e t) : PE X e (fun σ H Q => t σ H fun v H1 => Q v H1 ∨ ∃ a u, H1 a = some u ∧ Mut (some u) ∧ ∀ od, Q v (upd H1 a (.frz od u))) := by
  refine ⟨fun pins s σ H Q I q => ?_⟩
  refine thn (h.run pins s σ H _ I q) fun u s1 ⟨x, H1, I1, rx, q1⟩ => ?_
  rcases q1 with q1 | ⟨a, o, e1, mu, q1⟩
  · exact ⟨x, H1, I1, rx, q1⟩
  · obtain ⟨od, I2⟩ := I1.lock e1 mu
    exact ⟨x, _, I2, rx, q1 od⟩
section
variable {g : Gh} {F H : Hp} {σ : St} {ρ : Rho} {p : Addr} {o : HO}
/-- an object that nothing knows is written -/
theorem Ok.over (ok : Ok g F H σ ρ) (hf : F p = none) (no : ¬ Owned σ ρ p) (h0 : g.H0 p = none) : Ok g F (upd H p o) σ ρ where
  sub := fun b u e => by
    rw [upd_ne (ne_of_none e hf)]
    exact ok.sub b u e
  f0 := ok.f0
  fnew := ok.fnew
  keep := fun a u e n => by
    rw [upd_ne (ne_of_none e h0)]
    exact ok.keep a u e n
  there := fun a n => by
    by_cases e : a = p
    · subst e; rw [upd_same]; exact fun z => nomatch z
    · rw [upd_ne e]; exact ok.there a n
  len := ok.len
  fz := ok.fz
  ow := fun i d e => by
    obtain ⟨a, h1, h2⟩ := ok.ow i d e
    have ne : a ≠ p := fun z => by subst z; exact no ⟨i, d, e, h1⟩
    exact ⟨a, h1, h2.mono (Same.refl _) h2.nf fun u q => by rw [upd_ne ne]; exact q⟩
  inj := ok.inj
  own := ok.own
  pin := ok.pin
/-- a dict is locked and frozen -/
theorem Ok.lockD (ok : Ok g F H σ ρ) {u : HO} {od : Obj} (hf : F p = none) (no : ¬ Owned σ ρ p) (h0 : g.H0 p = none) : Ok g (upd F p (.frz od u)) (upd H p (.frz od u)) σ ρ :=
  (ok.over hf no h0).frz upd_same (.inl h0) hf no
end
def mDct (f : Rho → Res D) : Rho → Res D := fun ρ => (f ρ).bind fun x ρ1 => if isDct x then .ok x ρ1 else .bad
def ownDct (i : Nat) (ρ : Rho) : Option D := match ρ[i]? with
  | some (.ow d) => if isDct d then some d else none
  | _ => none
theorem ownDct_eq {i : Nat} {ρ : Rho} {d : D} (h : ownDct i ρ = some d) : ρ[i]? = some (.ow d) ∧ isDct d = true := by
  unfold ownDct at h
  split at h
  · rename_i e
    split at h
    · rename_i q; cases h; exact ⟨e, q⟩
    · cases h
  · cases h
def mVarZD (i : Nat) : Rho → Res D := fun ρ => match ownDct i ρ with
  | some d => .ok d (ρ.set i (.fz d))
  | none => .bad
section
variable {X : Cx} {g : Gh} {W : WX} {a b c e1 e2 : Expr} {pos p ap : Pos} {f k l : Rho → Res D} {m : RM} {x : Str} {i : Nat}
/-- from an own dict at a: locked, what it tells frozen -/
theorem lock_dn {K : PySem.W.Frag} {F H : Hp} {a : Addr} {d : D} (h : OwnD K F H a d) (hd : isDct d = true) : ∃ u, H a = some u ∧ Mut (some u) ∧ ∀ od, Dn K (upd F a (.frz od u)) (.ref a) d := by
  cases h with
  | lst _ _ _ => cases hd
  | dK h1 h2 h3 h4 => exact ⟨_, h2, trivial, fun od => .dK upd_same (dna_same (same_new h1) h3) h4⟩
  | dT h1 h2 h3 h4 => exact ⟨_, h2, trivial, fun od => .dT upd_same (dna_same (same_new h1) h3) h4⟩
/-- a fresh dict is frozen -/
theorem m_frzD (ha : PE X a (tE .fresh g W f)) : PE X a (tE .pure g W (mDct f)) := pe_mono (pe_lockEnd ha) fun σ H Q ⟨F, ρ, ok, h⟩ => by
  refine ⟨F, ρ, ok, ?_⟩
  unfold mDct at h
  cases q : f ρ with
  | ok d ρ1 =>
    rw [q] at h
    rw [Res.bind_ok] at h
    intro x F1 H1 st ok1 hx
    obtain ⟨p, rfl, hp, hd, no⟩ := hx
    split at h
    · rename_i hk
      obtain ⟨u, e1, mu, dn⟩ := lock_dn hd hk
      have nf : F1 p = none := hd.nf
      have h0 : g.H0 p = none := ok.nh0 hp
      refine .inr ⟨p, u, e1, mu, fun od => ?_⟩
      refine h (.ref p) (upd F1 p (.frz od u)) (upd H1 p (.frz od u)) ⟨st.ff.trans (same_new nf), fun b o e n => ?_, fun b n => ?_, fun b n => ?_, st.sh⟩ (ok1.lockD nf no h0) (dn od)
      · rw [upd_ne (ne_of_none e hp)]
        exact st.kp b o e n
      · by_cases e : b = p
        · subst e; exact .inr (.inl (.inl hp))
        · rw [upd_ne e] at n; exact st.fn b n
      · by_cases e : b = p
        · subst e; rw [upd_same]; exact fun z => nomatch z
        · rw [upd_ne e]; exact st.th b n
    · exact h.elim
  | ex n ρ1 => rw [q] at h; exact h
  | bad => rw [q] at h; exact h.elim
/-- an own dict is moved -/
theorem m_varZD (n : NmAt X i x) (hp : NoPin g i) : PE X (.Name x pos) (tE .pure g W (mVarZD i)) := pe_mono (pe_lockEnd n.pe) fun σ H Q ⟨F, ρ, ok, h⟩ => by
  unfold mVarZD at h
  cases q : ownDct i ρ with
  | none => rw [q] at h; exact h.elim
  | some d =>
    rw [q] at h
    obtain ⟨hi, hk⟩ := ownDct_eq q
    obtain ⟨a, ha, hd⟩ := ok.ow i d hi
    refine ⟨_, ha, .inr ?_⟩
    obtain ⟨u, e1, mu, dn⟩ := lock_dn hd hk
    refine ⟨a, u, e1, mu, fun od => ?_⟩
    have nf : F a = none := hd.nf
    have h0 : g.H0 a = none := by
      rcases ok.own i a d hi ha with z | z
      · exact z
      · exact absurd z (hp a)
    have no : ¬ Owned σ (ρ.set i .un) a := by
      rintro ⟨j, d', e1, e2⟩
      rcases getElem?_set_eq e1 with ⟨_, z⟩ | ⟨n, z⟩
      · cases z
      · exact n (ok.inj j i a d' d z hi e2 ha)
    have ok1 : Ok g (upd F a (.frz od u)) (upd H a (.frz od u)) σ (ρ.set i .un) := (ok.drop hp).lockD nf no h0
    have il : i < σ.length := by rw [ok.len]; exact (List.getElem?_eq_some_iff.mp hi).1
    have ok2 := ok1.setFz (i := i) (dn od) hp
    rw [List.set_set] at ok2
    have es : σ.set i (some (.ref a)) = σ := by
      apply List.ext_getElem?
      intro j
      by_cases e : i = j
      · subst e; rw [List.getElem?_set_self il, ha]
      · rw [List.getElem?_set_ne e]
    rw [es] at ok2
    refine h (.ref a) _ _ ⟨same_new nf, fun b o e n => ?_, fun b n => ?_, fun b n => ?_, fun b z => ?_⟩ ok2 (dn od)
    · have ne : b ≠ a := fun z => by subst z; exact n ⟨i, d, hi, ha⟩
      rw [upd_ne ne]; exact e
    · by_cases e : b = a
      · subst e; exact .inr (.inr ⟨i, d, hi, ha⟩)
      · rw [upd_ne e] at n; exact .inl n
    · by_cases e : b = a
      · subst e; rw [upd_same]; exact fun z => nomatch z
      · rw [upd_ne e]; exact n
    · obtain ⟨j, d', e1, e2⟩ := z
      rcases getElem?_set_eq e1 with ⟨_, q⟩ | ⟨n, q⟩
      · cases q
      · exact ⟨j, d', q, e2⟩
/-- {} -/
theorem m_dnewK : PE X (.Dict [] [] pos) (tE .fresh g W (mC (.dict [(.bool false, .none)]))) := pe_mono pe_dnewK fun σ H Q ⟨F, ρ, ok, h⟩ p hp =>
  h (.ref p) F (upd H p (.dK [])) (Step.new hp) (ok.new hp) ⟨p, rfl, hp, .dK (ds := []) (ok.nf hp) upd_same .nil rfl, ok.notOwned hp⟩
theorem m_dnewT : PE X (.Dict [] [] pos) (tE .fresh g W (mC (.dict [(.bool true, .none)]))) := pe_mono pe_dnewT fun σ H Q ⟨F, ρ, ok, h⟩ p hp =>
  h (.ref p) F (upd H p (.dT [])) (Step.new hp) (ok.new hp) ⟨p, rfl, hp, .dT (ds := []) (ok.nf hp) upd_same .nil rfl, ok.notOwned hp⟩
/-- {k: v}, k an int or a text -/
def mDisp1 (f k : Rho → Res D) : Rho → Res D := fun ρ => (f ρ).bind fun y ρ1 => (k ρ1).bind fun v ρ2 => match keyOf y with
  | some _ => .ok (.dict [(.bool false, .none), (y, v)]) ρ2
  | none => .bad
theorem m_disp1 (ha : PE X a (tE .pure g W f)) (hb : PE X b (tE .pure g W k)) : PE X (.Dict [some a] [b] pos) (tE .fresh g W (mDisp1 f k)) :=
  pe_mono (pe_disp (pps_cons ha hb pps_nil) rfl rfl (by simp) (by simp)) fun σ H Q ⟨F, ρ, ok, h⟩ p hp => by
    refine ⟨F, ρ, ok.new hp, ?_⟩
    unfold mDisp1 at h
    cases q : f ρ with
    | bad => rw [q] at h; exact h.elim
    | ex n ρ1 => rw [q] at h; exact h
    | ok y ρ1 =>
      rw [q, Res.bind_ok] at h
      intro x F1 H1 st1 ok1 hx
      refine ⟨F1, ρ1, ok1, ?_⟩
      cases q2 : k ρ1 with
      | bad => rw [q2] at h; exact h.elim
      | ex n ρ2 => rw [q2] at h; exact fun F' H' cls hm ff => h F' H' cls hm (st1.ff.trans ff)
      | ok v ρ2 =>
        rw [q2, Res.bind_ok] at h
        intro w F2 H2 st2 ok2 hw
        cases q3 : keyOf y with
        | none => rw [q3] at h; exact h.elim
        | some kk =>
          rw [q3] at h
          have ey := keyD_of q3
          subst ey
          have st := st1.trans st2
          have no : ¬ Owned σ ρ p := ok.notOwned hp
          have no2 : ¬ Owned σ ρ2 p := fun z => no (st.sh p z)
          have e2 : H2 p = some (.dK []) := st.kp p _ upd_same no
          have nf2 : F2 p = none := Classical.byContradiction fun n => by
            rcases st.fn p n with z | z | z
            · exact z (ok.nf hp)
            · rcases z with z | ⟨xs, z⟩ <;> rw [upd_same] at z <;> cases z
            · exact no z
          refine ⟨e2, [(kk, w)], ?_, by simp, ?_⟩
          · rw [dn_key hx]; rfl
          · have em : mergeK [] [(kk, w)] = [(kk, w)] := rfl
            rw [em]
            refine h (.ref p) F2 (upd H2 p (.dK [(kk, w)])) ⟨st.ff, fun b o e n => ?_, fun b n => ?_, fun b n => ?_, st.sh⟩ (ok2.over nf2 no2 (ok.nh0 hp)) ⟨p, rfl, hp, .dK (ds := [v]) nf2 upd_same (.cons hw .nil) rfl, no2⟩
            · rw [upd_ne (ne_of_none e hp)]
              exact st.kp b o (by rw [upd_ne (ne_of_none e hp)]; exact e) n
            · have ne : b ≠ p := fun z => by subst z; exact n nf2
              rcases st.fn b n with z | z | z
              · exact .inl z
              · unfold Nw at z ⊢
                rw [upd_ne ne] at z
                exact .inr (.inl z)
              · exact .inr (.inr z)
            · by_cases e : b = p
              · subst e; rw [upd_same]; exact fun z => nomatch z
              · rw [upd_ne e]; exact st.th b (by rw [upd_ne e]; exact n)
/-- d[k], d frozen -/
theorem m_dget (hu : X.A.units + 64 < cLine) (ha : PE X a (tE .pure g W f)) (hb : PE X b (tE .pure g W k)) (hs : NoSl b := by intro _ _; rfl) : PE X (.Subscript a b pos) (tE .pure g W (mBin dgetD f k)) :=
  pe_mono (pe_dget (by omega) ha hb hs) fun σ H Q ⟨F, ρ, ok, h⟩ => by
    refine ⟨F, ρ, ok, Post.bind h fun d ρ1 x F1 H1 st ok1 hx h1 => ⟨F1, ρ1, ok1, Post.bind h1 fun e ρ2 y F2 H2 st2 ok2 hy h2 => ?_⟩⟩
    cases q : dgetD d e with
    | none => rw [q] at h2; exact h2.elim
    | some w =>
      rw [q] at h2
      unfold dgetD at q
      obtain ⟨o, q1, q2⟩ := Option.bind_eq_some_iff.mp q
      have q2 : o = some w := q2
      subst q2
      have hk : isDct d = true := by
        unfold lookD at q1
        split at q1 <;> first | rfl | cases q1
      obtain ⟨a', rfl, da⟩ := dn_dct ok2.sub (dn_same st2.ff hx) hk
      obtain ⟨r, q3, q4⟩ := look_at da hy ok2.sub q1
      cases r with
      | none => exact q4.elim
      | some v => exact ⟨_, v, rfl, q3, h2.done ok2 q4⟩
/-- d.get(k, x), d frozen -/
def mGet2 (f k l : Rho → Res D) : Rho → Res D := fun ρ => (f ρ).bind fun d ρ1 => if isDct d = true then (k ρ1).bind fun y ρ2 => (l ρ2).bind fun z ρ3 => match lookD d y with
  | some o => .ok (o.getD z) ρ3
  | none => .bad else .bad
theorem m_get2 (hu : X.A.units + 64 < cLine) (ha : PE X a (tE .pure g W f)) (hb : PE X b (tE .pure g W k)) (hc : PE X c (tE .pure g W l)) (hm : M2 X a "get" ap b c pos) : PE X (.Call (.Attribute a "get" ap) [b, c] [] pos) (tE .pure g W (mGet2 f k l)) :=
  pe_mono (pe_dget2 (by omega) ha hb hc hm) fun σ H Q ⟨F, ρ, ok, h⟩ => by
    refine ⟨F, ρ, ok, Post.bind h fun d ρ1 x F1 H1 st ok1 hx h1 => ?_⟩
    split at h1
    · rename_i hk
      obtain ⟨a', rfl, da⟩ := dn_dct ok1.sub hx hk
      refine ⟨a', rfl, da.isD, F1, ρ1, ok1, Post.bind h1 fun e ρ2 y F2 H2 st2 ok2 hy h2 => ⟨F2, ρ2, ok2, Post.bind h2 fun w ρ3 z F3 H3 st3 ok3 hz h3 => ?_⟩⟩
      cases q : lookD d e with
      | none => simp only [q] at h3; exact h3.elim
      | some o =>
        simp only [q] at h3
        obtain ⟨a2, e2, da3⟩ := dn_dct ok3.sub (dn_same st3.ff (dn_same st2.ff hx)) hk
        cases e2
        obtain ⟨r, q3, q4⟩ := look_at da3 (dn_same st3.ff hy) ok3.sub q
        exact ⟨r, q3, h3.done ok3 (optRel_getD q4 hz)⟩
    · exact h1.elim
/-- d.get(k, x), d own -/
def mGet2O (i : Nat) (k l : Rho → Res D) : Rho → Res D := fun ρ => match ownDct i ρ with
  | none => .bad
  | some _ => (k ρ).bind fun y ρ2 => (l ρ2).bind fun z ρ3 => match ownDct i ρ3 with
    | some d => match lookD d y with
      | some o => .ok (o.getD z) ρ3
      | none => .bad
    | none => .bad
theorem m_get2O (hu : X.A.units + 64 < cLine) (n : NmAt X i x) (hb : PE X b (tE .pure g W k)) (hc : PE X c (tE .pure g W l)) (hm : M2 X (.Name x p) "get" ap b c pos) : PE X (.Call (.Attribute (.Name x p) "get" ap) [b, c] [] pos) (tE .pure g W (mGet2O i k l)) :=
  pe_mono (pe_dget2 (by omega) n.pe hb hc hm) fun σ H Q ⟨F, ρ, ok, h⟩ => by
    unfold mGet2O at h
    cases q0 : ownDct i ρ with
    | none => rw [q0] at h; exact h.elim
    | some d0 =>
      rw [q0] at h
      obtain ⟨hi, hk⟩ := ownDct_eq q0
      obtain ⟨a, ha, hd⟩ := ok.ow i d0 hi
      refine ⟨_, ha, a, rfl, (own_dct hd hk).isD, F, ρ, ok, Post.bind h fun e ρ2 y F2 H2 st2 ok2 hy h2 => ⟨F2, ρ2, ok2, Post.bind h2 fun w ρ3 z F3 H3 st3 ok3 hz h3 => ?_⟩⟩
      cases q1 : ownDct i ρ3 with
      | none => simp only [q1] at h3; exact h3.elim
      | some d =>
        simp only [q1] at h3
        obtain ⟨hi3, hk3⟩ := ownDct_eq q1
        obtain ⟨a3, ha3, hd3⟩ := ok3.ow i d hi3
        rw [ha] at ha3
        cases ha3
        cases q : lookD d e with
        | none => simp only [q] at h3; exact h3.elim
        | some o =>
          simp only [q] at h3
          obtain ⟨r, q3, q4⟩ := look_at (own_dct hd3 hk3) (dn_same st3.ff hy) ok3.sub q
          exact ⟨r, q3, h3.done ok3 (optRel_getD q4 hz)⟩
/-- d[k] = v, d own -/
def mDPut (i : Nat) (k l : Rho → Res D) : Rho → SR := fun ρ => (l ρ).toS fun v ρ1 => match ownDct i ρ1 with
  | none => .bad
  | some _ => (k ρ1).toS fun y ρ2 => match ownDct i ρ2 with
    | none => .bad
    | some d => match putD d y v with
      | some d' => .nx (ρ2.set i (.ow d'))
      | none => .bad
theorem m_dput (hu : X.A.units + 64 < cLine) (n : NmAt X i x) (hb : PE X b (tE .pure g W k)) (hv : PE X c (tE .pure g W l)) (hs : swapsWith c (some (.Subscript (.Name x p) b ap)) pos.line X.env = pure false := by rfl) :
    PS X (.Assign [.Subscript (.Name x p) b ap] c pos) (tS g W (mDPut i k l)) :=
  ps_mono (ps_dput (by omega) n.pe hb hv hs) fun E σ H ⟨F, ρ, ok, h⟩ => by
    refine ⟨F, ρ, ok, Post.toS ok h fun w ρ1 v F1 H1 st ok1 hv hp => ?_⟩
    cases q : ownDct i ρ1 with
    | none => rw [q] at hp; exact hp.elim
    | some d0 =>
      simp only [q] at hp
      obtain ⟨hi, hk⟩ := ownDct_eq q
      obtain ⟨a, ha, hd⟩ := ok1.ow i d0 hi
      refine ⟨_, ha, F1, ρ1, ok1, Post.toS ok1 hp fun e ρ2 y F2 H2 st2 ok2 hy hp2 => ?_⟩
      cases q2 : ownDct i ρ2 with
      | none => rw [q2] at hp2; exact hp2.elim
      | some d =>
        simp only [q2] at hp2
        obtain ⟨hi2, hk2⟩ := ownDct_eq q2
        obtain ⟨a2, ha2, hd2⟩ := ok2.ow i d hi2
        rw [ha] at ha2
        cases ha2
        cases q3 : putD d e w with
        | none => rw [q3] at hp2; exact hp2.elim
        | some d' =>
          rw [q3] at hp2
          obtain ⟨o', k1, k2⟩ := put_at hd2 hy (dn_same st2.ff hv) ok2.sub q3
          exact ⟨_, _, rfl, k1, hp2 σ F2 _ (Same.refl _) (ok2.mut hi2 ha k2)⟩
/-- for k in d, d frozen -/
def mKeys (f : Rho → Res D) : Rho → Res (List D) := fun ρ => (f ρ).bind fun x ρ1 => ofOpt (keysL x) ρ1
theorem src_keysK {K : PySem.W.Frag} {F : Hp} {a : Addr} {o : Obj} {kvs : List (Key × V)} (h : F a = some (.frz o (.dK kvs))) : Src K F (Itk a o kvs) (kvs.map fun p => keyD p.1) where
  goes := fun i H hi e => ⟨e _ _ h, by simpa using hi⟩
  stops := fun H e => ⟨e _ _ h, by simp⟩
  yld := fun i H x H' hi e y => by
    obtain ⟨q1, k, v, q2, q3⟩ := y
    refine ⟨keyD k, by rw [List.getElem?_map, q2]; rfl, .inl ⟨q1, ?_⟩⟩
    subst q3
    cases k with
    | inl j => exact .int j
    | inr s => exact .str s
theorem src_keysT {K : PySem.W.Frag} {F : Hp} {a : Addr} {o : Obj} {kvs : List (List Key × V)} (h : F a = some (.frz o (.dT kvs))) : Src K F (Itkt a o kvs) (kvs.map fun p => keysD p.1) where
  goes := fun i H hi e => ⟨e _ _ h, by simpa using hi⟩
  stops := fun H e => ⟨e _ _ h, by simp⟩
  yld := fun i H x H' hi e y => by
    obtain ⟨q1, k, v, q, q2, q3, q4⟩ := y
    exact ⟨keysD k, by rw [List.getElem?_map, q2]; rfl, .inr (.inr ⟨q, k.map kV, k.map keyD, q3, q4, q1, rfl, dna_of_keys k⟩)⟩
theorem m_keys {tg : Expr} (ha : PE X a (tE .pure g W f)) : PI X tg a (tI g W (mKeys f)) := pi_mono (pi_keys ha) fun σ H R ⟨F, ρ, ok, h⟩ => by
  refine ⟨F, ρ, ok, Post.bind h fun d ρ1 x F1 H1 st ok1 hx h1 => ?_⟩
  cases q : keysL d with
  | none => rw [q] at h1; exact h1.elim
  | some ks =>
    rw [q] at h1
    cases hx <;> simp only [keysL, reduceCtorEq] at q
    · rename_i hf hds he
      subst he
      have q : (entD keyD _ _).map (·.1) = ks := Option.some.inj q
      rw [ent_keys hds] at q
      subst q
      exact ⟨_, _, rfl, .inl ⟨_, ok1.sub _ _ hf, h1.done ok1 (src_keysK hf)⟩⟩
    · rename_i hf hds he
      subst he
      have q : (entD keysD _ _).map (·.1) = ks := Option.some.inj q
      rw [ent_keys hds] at q
      subst q
      exact ⟨_, _, rfl, .inr ⟨_, ok1.sub _ _ hf, h1.done ok1 (src_keysT hf)⟩⟩
end
end Mi
set_option Elab.async false
set_option linter.all false
set_option maxRecDepth 100000
namespace Mi
open PySem PySem.Spec L2
section
variable {i : Nat} {ρ : Rho} {f k l : Rho → Res D} {x y v : D} {es : List (D × D)} {b : Bool}
@[simp] theorem e_mDct : mDct f ρ = (f ρ).bind fun x ρ1 => if isDct x then .ok x ρ1 else .bad := Eq.trans rfl rfl
@[simp] theorem e_isDct : isDct (.dict ((.bool b, .none) :: es)) = true := Eq.trans rfl rfl
@[simp] theorem e_ownDct : ownDct i ρ = (match ρ[i]? with
  | some (.ow d) => if isDct d then some d else none
  | _ => none) := Eq.trans rfl rfl
@[simp] theorem e_mVarZD : mVarZD i ρ = (match ownDct i ρ with
  | some d => .ok d (ρ.set i (.fz d))
  | none => .bad) := Eq.trans rfl rfl
@[simp] theorem e_mDisp1 : mDisp1 f k ρ = (f ρ).bind fun y ρ1 => (k ρ1).bind fun v ρ2 => match keyOf y with
  | some _ => .ok (.dict [(.bool false, .none), (y, v)]) ρ2
  | none => .bad := Eq.trans rfl rfl
@[simp] theorem e_mGet2 : mGet2 f k l ρ = (f ρ).bind fun d ρ1 => if isDct d = true then (k ρ1).bind fun y ρ2 => (l ρ2).bind fun z ρ3 => match lookD d y with
  | some o => .ok (o.getD z) ρ3
  | none => .bad else .bad := Eq.trans rfl rfl
@[simp] theorem e_mGet2O : mGet2O i k l ρ = (match ownDct i ρ with
  | none => .bad
  | some _ => (k ρ).bind fun y ρ2 => (l ρ2).bind fun z ρ3 => match ownDct i ρ3 with
    | some d => match lookD d y with
      | some o => .ok (o.getD z) ρ3
      | none => .bad
    | none => .bad) := Eq.trans rfl rfl
@[simp] theorem e_mDPut : mDPut i k l ρ = (l ρ).toS fun v ρ1 => match ownDct i ρ1 with
  | none => .bad
  | some _ => (k ρ1).toS fun y ρ2 => match ownDct i ρ2 with
    | none => .bad
    | some d => match putD d y v with
      | some d' => .nx (ρ2.set i (.ow d'))
      | none => .bad := Eq.trans rfl rfl
@[simp] theorem e_putNst {is js : List Nat} {us fs : List D} : (Tgt.nst is js).put (.tuple (.tuple us :: fs)) ρ = if us.length = is.length ∧ fs.length = js.length then some (setAll js fs (setAll is us ρ)) else none := Eq.trans rfl rfl
@[simp] theorem e_mKeys : mKeys f ρ = (f ρ).bind fun x ρ1 => ofOpt (keysL x) ρ1 := Eq.trans rfl rfl
@[simp] theorem e_keysL : keysL (.dict ((.bool b, .none) :: es)) = some (es.map (·.1)) := by cases b <;> exact Eq.trans rfl rfl
@[simp] theorem e_dgetD {d : D} : dgetD d y = (lookD d y).bind id := Eq.trans rfl rfl
@[simp] theorem e_keyOfI {j : Int} : keyOf (.int j) = some (.inl j) := Eq.trans rfl rfl
@[simp] theorem e_lookK {j : Int} : lookD (.dict ((.bool false, .none) :: es)) (.int j) = some (findE keyOf es (.inl j)) := Eq.trans rfl rfl
@[simp] theorem e_putK {j : Int} : putD (.dict ((.bool false, .none) :: es)) (.int j) v = (if es.length < 1000000 then some (.dict ((.bool false, .none) :: putE keyOf es (.int j) (.inl j) v)) else none) := Eq.trans rfl rfl
end
end Mi
set_option Elab.async false
set_option linter.all false
set_option maxRecDepth 100000
namespace Cap
open PySem PySem.Spec L2 Mi
def L1__wall : Rho → SR :=
  mPass
def W1__wall : Rho → Res Bool :=
  mTru (mC (.bool true))
def M__wall : Rho → SR :=
  mWhile W1__wall L1__wall 100
def F__wall : List D → List D → FR := runF 1 0 .pure M__wall
def M_is_integer : Rho → SR :=
  mRet (mAndV (mUn (isiD .int) (mVar 0)) (mAndV (mNotV (mUn (isiD .bool) (mVar 0))) (mChain leD leD (mVar 1) (mVar 0) (mVar 2))))
def F_is_integer : List D → List D → FR := runF 3 0 .pure M_is_integer
def C1_is_times : Rho → Res D :=
  mArgs [] (mCons (mVar 1) (mCons (mBin subD (mC (.int 0)) (mC (.int 1000000000000))) (mCons (mC (.int 1000000000000)) mNil))) F_is_integer
def M_is_times : Rho → SR :=
  mSeq (mIfS (mOr (mNot (mTru (mUn (isiD .tuple) (mVar 0)))) (mNot (mTest (mChain leD leD (mC (.int 1)) (mApp lenD (mCons (mVar 0) mNil)) (mC (.int 30)))))) (mRet (mC (.bool false))) mPass)
  (mRet (mApp allD (mCons (mLst (mLc (mSeqI (mVar 0)) [1] (.name 1) mYes C1_is_times)) mNil)))
def F_is_times : List D → List D → FR := runF 2 0 .pure M_is_times
def M_require_times : Rho → SR :=
  mIfS (mNot (mTru (mArgs [] (mCons (mVar 0) mNil) F_is_times))) (mRaise "InvalidTimes") mPass
def F_require_times : List D → List D → FR := runF 1 0 .pure M_require_times
def M_require_rows : Rho → SR :=
  mSeq (mDrop (mArgs [] (mCons (mVar 0) mNil) F_require_times))
  (mIfS (mOr (mNot (mTru (mArgs [] (mCons (mVar 1) mNil) F_is_times))) (mTest (mBin neD (mApp lenD (mCons (mVar 1) mNil)) (mApp lenD (mCons (mVar 0) mNil))))) (mRaise "InvalidTimes") mPass)
def F_require_rows : List D → List D → FR := runF 2 0 .pure M_require_rows
def C1_shifts_of : Rho → Res D :=
  mBin subD (mVar 3) (mVar 2)
def M_shifts_of : Rho → SR :=
  mRetF (mLc (mItA zipK (mCons (mVar 0) (mCons (mVar 1) mNil))) [2, 3] (.tup [2, 3]) mYes C1_shifts_of)
def F_shifts_of : List D → List D → FR := runF 4 0 .fresh M_shifts_of
def C1_steps_of : Rho → Res D :=
  mBin subD (mVar 2) (mVar 1)
def M_steps_of : Rho → SR :=
  mRetF (mLc (mItA zipK (mCons (mBin addD (mLst (mLd (mCons (mC (.int 0)) mNil))) (mVar 0)) (mCons (mVar 0) mNil))) [1, 2] (.tup [1, 2]) mYes C1_steps_of)
def F_steps_of : List D → List D → FR := runF 3 0 .fresh M_steps_of
def M_shifts : Rho → SR :=
  mSeq (mDrop (mArgs [] (mCons (mVar 0) (mCons (mVar 1) mNil)) F_require_rows))
  (mRetF (mArgs [] (mCons (mVar 0) (mCons (mVar 1) mNil)) F_shifts_of))
def F_shifts : List D → List D → FR := runF 2 0 .fresh M_shifts
def C1_breaks_of : Rho → Res D :=
  mVar 1
def T1_breaks_of : Rho → Res Bool :=
  mTest (mBin neD (mVar 2) (mC (.int 0)))
def M_breaks_of : Rho → SR :=
  mRetF (mLc (mItA enumA (mCons (mLst (mArgs [] (mCons (mVar 0) mNil) F_steps_of)) mNil)) [1, 2] (.tup [1, 2]) T1_breaks_of C1_breaks_of)
def F_breaks_of : List D → List D → FR := runF 3 0 .fresh M_breaks_of
def M_breaks : Rho → SR :=
  mSeq (mDrop (mArgs [] (mCons (mVar 0) (mCons (mVar 1) mNil)) F_require_rows))
  (mRetF (mArgs [] (mCons (mLst (mArgs [] (mCons (mVar 0) (mCons (mVar 1) mNil)) F_shifts_of)) mNil) F_breaks_of))
def F_breaks : List D → List D → FR := runF 2 0 .fresh M_breaks
def M_is_amount : Rho → SR :=
  mRet (mAndV (mArgs [] (mCons (mVar 0) (mCons (mBin subD (mC (.int 0)) (mC (.int 4000000000000))) (mCons (mC (.int 4000000000000)) mNil))) F_is_integer) (mBin neD (mVar 0) (mC (.int 0))))
def F_is_amount : List D → List D → FR := runF 1 0 .pure M_is_amount
def M_is_command : Rho → SR :=
  mSeq (mIfS (mOr (mNot (mTru (mUn (isiD .tuple) (mVar 1)))) (mOr (mTest (mBin neD (mApp lenD (mCons (mVar 1) mNil)) (mC (.int 3)))) (mNot (mTru (mUn (isiD .str) (mBin ixD (mVar 1) (mC (.int 0)))))))) (mRet (mC (.bool false))) mPass)
  (mRet (mAndV (mBin (inD false) (mBin ixD (mVar 1) (mC (.int 0))) (mTup (mCons (mC (.str "one")) (mCons (mC (.str "following")) mNil)))) (mAndV (mArgs [] (mCons (mBin ixD (mVar 1) (mC (.int 1))) (mCons (mC (.int 0)) (mCons (mBin subD (mVar 0) (mC (.int 1))) mNil))) F_is_integer) (mArgs [] (mCons (mBin ixD (mVar 1) (mC (.int 2))) mNil) F_is_amount))))
def F_is_command : List D → List D → FR := runF 2 0 .pure M_is_command
def C1_are_commands : Rho → Res D :=
  mArgs [] (mCons (mVar 0) (mCons (mVar 2) mNil)) F_is_command
def M_are_commands : Rho → SR :=
  mSeq (mIfS (mOr (mNot (mTru (mUn (isiD .tuple) (mVar 1)))) (mTest (mBin gtD (mApp lenD (mCons (mVar 1) mNil)) (mC (.int 60))))) (mRet (mC (.bool false))) mPass)
  (mRet (mApp allD (mCons (mLst (mLc (mSeqI (mVar 1)) [2] (.name 2) mYes C1_are_commands)) mNil)))
def F_are_commands : List D → List D → FR := runF 3 0 .pure M_are_commands
def M_require_script : Rho → SR :=
  mIfS (mNot (mTru (mArgs [] (mCons (mVar 0) (mCons (mVar 1) mNil)) F_are_commands))) (mRaise "InvalidScript") mPass
def F_require_script : List D → List D → FR := runF 2 0 .pure M_require_script
def L1_after : Rho → SR :=
  mSeq (mSet .pure 8 (mOrV (mBin eqD (mVar 6) (mVar 3)) (mAndV (mBin eqD (mVar 2) (mC (.str "following"))) (mBin gtD (mVar 6) (mVar 3)))))
  (mDrop (mAppend 5 (mIf (mTru (mVar 8)) (mBin addD (mVar 7) (mVar 4)) (mVar 7))))
def M_after : Rho → SR :=
  mSeq (mAsg (.tup [2, 3, 4]) (mVar 1))
  (mSeq (mSet .fresh 5 (mLd mNil))
  (mSeq (mFor (mItA enumA (mCons (mVar 0) mNil)) (.tup [6, 7]) L1_after)
  (mRet (mOwn1 tuple1 5))))
def F_after : List D → List D → FR := runF 9 0 .pure M_after
def L1_last_of : Rho → SR :=
  mSet .pure 0 (mArgs [] (mCons (mVar 0) (mCons (mVar 2) mNil)) F_after)
def M_last_of : Rho → SR :=
  mSeq (mFor (mSeqI (mVar 1)) (.name 2) L1_last_of)
  (mRet (mVar 0))
def F_last_of : List D → List D → FR := runF 3 0 .pure M_last_of
def M_run : Rho → SR :=
  mSeq (mDrop (mArgs [] (mCons (mVar 0) mNil) F_require_times))
  (mSeq (mDrop (mArgs [] (mCons (mApp lenD (mCons (mVar 0) mNil)) (mCons (mVar 1) mNil)) F_require_script))
  (mRet (mArgs [] (mCons (mVar 0) (mCons (mVar 1) mNil)) F_last_of)))
def F_run : List D → List D → FR := runF 2 0 .pure M_run
def C1_returns_of : Rho → Res D :=
  mVar 7
def T1_returns_of : Rho → Res Bool :=
  mTest (mBin eqD (mBin ixD (mVar 3) (mVar 7)) (mBin ixD (mVar 0) (mVar 4)))
def L1_returns_of : Rho → SR :=
  mSeq (mIfS (mTest (mBin eqD (mVar 5) (mC (.int 0)))) (mSet .pure 2 (mBin addD (mVar 4) (mC (.int 1)))) mPass)
  (mSeq (mSetLF 6 (mLc (mItA rng2 (mCons (mVar 2) (mCons (mVar 4) mNil))) [7] (.name 7) T1_returns_of C1_returns_of))
  (mIfS (mAnd (mTest (mBin neD (mVar 5) (mC (.int 0)))) (mTru (mVar 6))) (mSeq (mDrop (mAppend 1 (mTup (mCons (mBin ixD (mVar 6) (mUn negD (mC (.int 1)))) (mCons (mVar 4) mNil)))))
  (mSet .pure 2 (mBin addD (mVar 4) (mC (.int 1))))) mPass))
def M_returns_of : Rho → SR :=
  mSeq (mPar [1, 2] [.fresh, .pure] (mCons (mLd mNil) (mCons (mC (.int 0)) mNil)))
  (mSeq (mSet .pure 3 (mBin addD (mLst (mLd (mCons (mC (.int 0)) mNil))) (mVar 0)))
  (mSeq (mFor (mItA enumA (mCons (mLst (mArgs [] (mCons (mVar 0) mNil) F_steps_of)) mNil)) (.tup [4, 5]) L1_returns_of)
  (mRetO 1)))
def F_returns_of : List D → List D → FR := runF 8 0 .fresh M_returns_of
def M_returns : Rho → SR :=
  mSeq (mDrop (mArgs [] (mCons (mVar 0) (mCons (mVar 1) mNil)) F_require_rows))
  (mRetF (mArgs [] (mCons (mLst (mArgs [] (mCons (mVar 0) (mCons (mVar 1) mNil)) F_shifts_of)) mNil) F_returns_of))
def F_returns : List D → List D → FR := runF 2 0 .fresh M_returns
def M_fewest_of : Rho → SR :=
  mRet (mBin subD (mApp lenD (mCons (mLst (mArgs [] (mCons (mVar 0) mNil) F_breaks_of)) mNil)) (mApp lenD (mCons (mLst (mArgs [] (mCons (mVar 0) mNil) F_returns_of)) mNil)))
def F_fewest_of : List D → List D → FR := runF 1 0 .pure M_fewest_of
def M_fewest : Rho → SR :=
  mSeq (mDrop (mArgs [] (mCons (mVar 0) (mCons (mVar 1) mNil)) F_require_rows))
  (mRet (mArgs [] (mCons (mLst (mArgs [] (mCons (mVar 0) (mCons (mVar 1) mNil)) F_shifts_of)) mNil) F_fewest_of))
def F_fewest : List D → List D → FR := runF 2 0 .pure M_fewest
def C1_script_for : Rho → Res D :=
  mTup (mCons (mC (.str "one")) (mCons (mVar 7) (mCons (mBin subD (mBin ixD (mVar 0) (mVar 7)) (mBin ixD (mVar 1) (mVar 4))) mNil)))
def L1_script_for : Rho → SR :=
  mSeq (mExt 2 (mLst (mBin lrg2 (mVar 4) (mBin addD (mVar 5) (mC (.int 1))))))
  (mExt 3 (mLst (mLc (mItA rng2 (mCons (mVar 4) (mCons (mVar 5) mNil))) [7] (.name 7) mYes C1_script_for)))
def C2_script_for : Rho → Res D :=
  mTup (mCons (mC (.str "following")) (mCons (mVar 7) (mCons (mBin ixD (mVar 6) (mVar 7)) mNil)))
def T1_script_for : Rho → Res Bool :=
  mTest (mOwnR (inD true) (mVar 7) 2)
def M_script_for : Rho → SR :=
  mSeq (mSet .pure 1 (mBin addD (mLst (mLd (mCons (mC (.int 0)) mNil))) (mVar 0)))
  (mSeq (mPar [2, 3] [.fresh, .fresh] (mCons (mLd mNil) (mCons (mLd mNil) mNil)))
  (mSeq (mFor (mSeqI (mLst (mArgs [] (mCons (mVar 0) mNil) F_returns_of))) (.tup [4, 5]) L1_script_for)
  (mSeq (mSet .pure 6 (mLst (mArgs [] (mCons (mVar 0) mNil) F_steps_of)))
  (mSeq (mExt 3 (mLst (mLc (mSeqI (mLst (mArgs [] (mCons (mVar 0) mNil) F_breaks_of))) [7] (.name 7) T1_script_for C2_script_for)))
  (mRet (mOwn1 tuple1 3))))))
def F_script_for : List D → List D → FR := runF 8 0 .pure M_script_for
def M_plan : Rho → SR :=
  mSeq (mDrop (mArgs [] (mCons (mVar 0) (mCons (mVar 1) mNil)) F_require_rows))
  (mRet (mArgs [] (mCons (mLst (mArgs [] (mCons (mVar 0) (mCons (mVar 1) mNil)) F_shifts_of)) mNil) F_script_for))
def F_plan : List D → List D → FR := runF 2 0 .pure M_plan
def M_require_prices : Rho → SR :=
  mSeq (mDrop (mArgs [] (mCons (mVar 0) (mCons (mVar 1) mNil)) F_require_rows))
  (mSeq (mIfS (mNot (mTru (mArgs [] (mCons (mVar 2) (mCons (mC (.int 1)) (mCons (mC (.int 1000)) mNil))) F_is_integer))) (mRaise "InvalidPrice") mPass)
  (mIfS (mNot (mTru (mArgs [] (mCons (mVar 3) (mCons (mC (.int 1)) (mCons (mC (.int 1000)) mNil))) F_is_integer))) (mRaise "InvalidPrice") mPass))
def F_require_prices : List D → List D → FR := runF 4 0 .pure M_require_prices
def C1_best_bases : Rho → Res D :=
  mBin dgetD (mVar 4) (mVar 9)
def L1_best_bases : Rho → SR :=
  mSeq (mSet .pure 10 (mTup (mCons (mBin addD (mBin ixD (mVar 7) (mC (.int 0))) (mVar 3)) (mCons (mBin ixD (mVar 7) (mC (.int 1))) mNil))))
  (mSeq (mAsg (.tup [11, 12]) (mApp minTD (mCons (mGet2 (mVar 4) (mVar 9) (mVar 10)) (mCons (mVar 10) mNil))))
  (mDPut 8 (mVar 9) (mTup (mCons (mBin addD (mVar 11) (mIf (mTest (mChain leD leD (mVar 5) (mVar 9) (mVar 6))) (mC (.int 0)) (mVar 2))) (mCons (mBin addD (mVar 12) (mTup (mCons (mVar 9) mNil))) mNil)))))
def L2_best_bases : Rho → SR :=
  mSeq (mSet .pure 7 (mApp minLD (mCons (mLst (mLc (mKeys (mVar 4)) [9] (.name 9) mYes C1_best_bases)) mNil)))
  (mSeq (mSet .fresh 8 (mC (.dict [(.bool false, .none)])))
  (mSeq (mFor (mSeqI (mVar 1)) (.name 9) L1_best_bases)
  (mSet .pure 4 (mVarZD 8))))
def M_best_bases : Rho → SR :=
  mSeq (mSet .pure 4 (mDct (mDisp1 (mC (.int 0)) (mTup (mCons (mC (.int 0)) (mCons (mTup mNil) mNil))))))
  (mSeq (mFor (mSeqI (mVar 0)) (.tup [5, 6]) L2_best_bases)
  (mRet (mApp minLD (mCons (mLst (mLc (mKeys (mVar 4)) [9] (.name 9) mYes C1_best_bases)) mNil))))
def F_best_bases : List D → List D → FR := runF 13 0 .pure M_best_bases
def C1_exact_bases : Rho → Res D :=
  mTup (mCons (mVar 4) (mCons (mVar 4) mNil))
def M_exact_bases : Rho → SR :=
  mSeq (mSet .pure 3 (mLst (mUn setD (mBin addD (mLst (mLd (mCons (mC (.int 0)) mNil))) (mVar 0)))))
  (mRet (mArgs [] (mCons (mLst (mLc (mSeqI (mVar 0)) [4] (.name 4) mYes C1_exact_bases)) (mCons (mVar 3) (mCons (mVar 1) (mCons (mVar 2) mNil)))) F_best_bases))
def F_exact_bases : List D → List D → FR := runF 5 0 .pure M_exact_bases
def L1_cheapest : Rho → SR :=
  mSeq (mIfS (mTest (mBin neD (mVar 9) (mVar 7))) (mDrop (mAppend 6 (mTup (mCons (mC (.str "following")) (mCons (mVar 8) (mCons (mBin subD (mVar 9) (mVar 7)) mNil)))))) mPass)
  (mSeq (mIfS (mTest (mBin neD (mBin ixD (mVar 4) (mVar 8)) (mVar 9))) (mDrop (mAppend 6 (mTup (mCons (mC (.str "one")) (mCons (mVar 8) (mCons (mBin subD (mBin ixD (mVar 4) (mVar 8)) (mVar 9)) mNil)))))) mPass)
  (mSet .pure 7 (mVar 9)))
def M_cheapest : Rho → SR :=
  mSeq (mDrop (mArgs [] (mCons (mVar 0) (mCons (mVar 1) (mCons (mVar 2) (mCons (mVar 3) mNil)))) F_require_prices))
  (mSeq (mSet .pure 4 (mLst (mArgs [] (mCons (mVar 0) (mCons (mVar 1) mNil)) F_shifts_of)))
  (mSeq (mSet .pure 5 (mBin ixD (mArgs [] (mCons (mVar 4) (mCons (mVar 2) (mCons (mVar 3) mNil))) F_exact_bases) (mC (.int 1))))
  (mSeq (mPar [6, 7] [.fresh, .pure] (mCons (mLd mNil) (mCons (mC (.int 0)) mNil)))
  (mSeq (mFor (mItA enumA (mCons (mVar 5) mNil)) (.tup [8, 9]) L1_cheapest)
  (mRet (mOwn1 tuple1 6))))))
def F_cheapest : List D → List D → FR := runF 10 0 .pure M_cheapest
def M_require_gap : Rho → SR :=
  mIfS (mNot (mTru (mArgs [] (mCons (mVar 0) (mCons (mC (.int 0)) (mCons (mC (.int 1000000000000)) mNil))) F_is_integer))) (mRaise "InvalidGap") mPass
def F_require_gap : List D → List D → FR := runF 1 0 .pure M_require_gap
def C1_keeps : Rho → Res D :=
  mBin geD (mBin subD (mVar 3) (mVar 2)) (mVar 1)
def M_keeps : Rho → SR :=
  mRet (mApp allD (mCons (mLst (mLc (mItA zipK (mCons (mVar 0) (mCons (mSl slAD (mVar 0) (mSome (mC (.int 1))) mNone) mNil))) [2, 3] (.tup [2, 3]) mYes C1_keeps)) mNil))
def F_keeps : List D → List D → FR := runF 4 0 .pure M_keeps
def M_is_steady : Rho → SR :=
  mSeq (mDrop (mArgs [] (mCons (mVar 0) mNil) F_require_times))
  (mSeq (mDrop (mArgs [] (mCons (mVar 1) mNil) F_require_gap))
  (mRet (mArgs [] (mCons (mVar 0) (mCons (mVar 1) mNil)) F_keeps)))
def F_is_steady : List D → List D → FR := runF 2 0 .pure M_is_steady
def C1_commands_for : Rho → Res D :=
  mVar 5
def T1_commands_for : Rho → Res Bool :=
  mTru (mArgs [] (mCons (mVar 0) (mCons (mVar 5) mNil)) F_is_command)
def M_commands_for : Rho → SR :=
  mSeq (mSet .pure 2 (mLst (mArgs [] (mCons (mVar 1) mNil) F_breaks_of)))
  (mSeq (mSet .pure 3 (mLst (mArgs [] (mCons (mVar 1) mNil) F_steps_of)))
  (mSeq (mSet .fresh 4 (mLd mNil))
  (mSeq (mIfS (mTest (mBin eqD (mApp lenD (mCons (mVar 2) mNil)) (mC (.int 1)))) (mDrop (mAppend 4 (mTup (mCons (mC (.str "following")) (mCons (mBin ixD (mVar 2) (mC (.int 0))) (mCons (mBin ixD (mVar 3) (mBin ixD (mVar 2) (mC (.int 0)))) mNil)))))) mPass)
  (mSeq (mIfS (mAnd (mTest (mBin eqD (mApp lenD (mCons (mVar 2) mNil)) (mC (.int 1)))) (mTest (mBin eqD (mBin ixD (mVar 2) (mC (.int 0))) (mBin subD (mVar 0) (mC (.int 1)))))) (mDrop (mAppend 4 (mTup (mCons (mC (.str "one")) (mCons (mBin ixD (mVar 2) (mC (.int 0))) (mCons (mBin ixD (mVar 3) (mBin ixD (mVar 2) (mC (.int 0)))) mNil)))))) mPass)
  (mSeq (mIfS (mAnd (mTest (mBin eqD (mApp lenD (mCons (mVar 2) mNil)) (mC (.int 2)))) (mAnd (mTest (mBin eqD (mBin ixD (mVar 2) (mC (.int 1))) (mBin addD (mBin ixD (mVar 2) (mC (.int 0))) (mC (.int 1))))) (mTest (mBin eqD (mBin ixD (mVar 1) (mBin ixD (mVar 2) (mC (.int 1)))) (mC (.int 0)))))) (mDrop (mAppend 4 (mTup (mCons (mC (.str "one")) (mCons (mBin ixD (mVar 2) (mC (.int 0))) (mCons (mBin ixD (mVar 1) (mBin ixD (mVar 2) (mC (.int 0)))) mNil)))))) mPass)
  (mRetF (mLc (mSeqI (mVarZ 4)) [5] (.name 5) T1_commands_for C1_commands_for)))))))
def F_commands_for : List D → List D → FR := runF 6 0 .fresh M_commands_for
def M_single_commands : Rho → SR :=
  mSeq (mDrop (mArgs [] (mCons (mVar 0) (mCons (mVar 1) mNil)) F_require_rows))
  (mRetF (mArgs [] (mCons (mApp lenD (mCons (mVar 0) mNil)) (mCons (mLst (mArgs [] (mCons (mVar 0) (mCons (mVar 1) mNil)) F_shifts_of)) mNil)) F_commands_for))
def F_single_commands : List D → List D → FR := runF 2 0 .fresh M_single_commands
def M_require_result : Rho → SR :=
  mIfS (mOr (mNot (mTru (mArgs [] (mCons (mVar 1) mNil) F_is_times))) (mTest (mBin neD (mApp lenD (mCons (mVar 1) mNil)) (mApp lenD (mCons (mVar 0) mNil))))) (mRaise "InvalidTimes") mPass
def F_require_result : List D → List D → FR := runF 2 0 .pure M_require_result
def M_missing : Rho → SR :=
  mSeq (mDrop (mArgs [] (mCons (mVar 0) mNil) F_require_times))
  (mSeq (mDrop (mArgs [] (mCons (mApp lenD (mCons (mVar 0) mNil)) (mCons (mVar 1) mNil)) F_require_script))
  (mSeq (mDrop (mArgs [] (mCons (mVar 0) (mCons (mVar 2) mNil)) F_require_result))
  (mRetF (mArgs [] (mCons (mApp lenD (mCons (mVar 0) mNil)) (mCons (mLst (mArgs [] (mCons (mArgs [] (mCons (mVar 0) (mCons (mVar 1) mNil)) F_last_of) (mCons (mVar 2) mNil)) F_shifts_of)) mNil)) F_commands_for))))
def F_missing : List D → List D → FR := runF 3 0 .fresh M_missing
def C1_is_range : Rho → Res D :=
  mArgs [] (mCons (mVar 1) (mCons (mBin subD (mC (.int 0)) (mC (.int 1000000000000))) (mCons (mC (.int 1000000000000)) mNil))) F_is_integer
def M_is_range : Rho → SR :=
  mSeq (mIfS (mOr (mNot (mTru (mUn (isiD .tuple) (mVar 0)))) (mTest (mBin neD (mApp lenD (mCons (mVar 0) mNil)) (mC (.int 2))))) (mRet (mC (.bool false))) mPass)
  (mSeq (mIfS (mNot (mTru (mApp allD (mCons (mLst (mLc (mSeqI (mVar 0)) [1] (.name 1) mYes C1_is_range)) mNil)))) (mRet (mC (.bool false))) mPass)
  (mRet (mBin leD (mBin ixD (mVar 0) (mC (.int 0))) (mBin ixD (mVar 0) (mC (.int 1))))))
def F_is_range : List D → List D → FR := runF 2 0 .pure M_is_range
def C1_require_wishes : Rho → Res D :=
  mOrV (mBin (isD false) (mVar 2) (mC .none)) (mArgs [] (mCons (mVar 2) mNil) F_is_range)
def M_require_wishes : Rho → SR :=
  mSeq (mDrop (mArgs [] (mCons (mVar 0) mNil) F_require_times))
  (mSeq (mIfS (mOr (mNot (mTru (mUn (isiD .tuple) (mVar 1)))) (mTest (mBin neD (mApp lenD (mCons (mVar 1) mNil)) (mApp lenD (mCons (mVar 0) mNil))))) (mRaise "InvalidWishes") mPass)
  (mIfS (mNot (mTru (mApp allD (mCons (mLst (mLc (mSeqI (mVar 1)) [2] (.name 2) mYes C1_require_wishes)) mNil)))) (mRaise "InvalidWishes") mPass))
def F_require_wishes : List D → List D → FR := runF 3 0 .pure M_require_wishes
def L1_best_of : Rho → SR :=
  mSeq (mAsg (.tup [8, 9]) (mIf (mTest (mBin (isD false) (mVar 5) (mC .none))) (mTup (mCons (mBin subD (mC (.int 0)) (mC (.int 1000000000000))) (mCons (mC (.int 1000000000000)) mNil))) (mVar 5)))
  (mSeq (mPar [10, 11] [.pure, .pure] (mCons (mBin subD (mVar 8) (mVar 4)) (mCons (mBin subD (mVar 9) (mVar 4)) mNil)))
  (mSeq (mDrop (mAppend 2 (mTup (mCons (mVar 10) (mCons (mVar 11) mNil)))))
  (mIfS (mTest (mBin (isD true) (mVar 5) (mC .none))) (mExt 3 (mLst (mLd (mCons (mVar 10) (mCons (mVar 11) mNil))))) mPass)))
def C1_best_of : Rho → Res D :=
  mApp max2D (mCons (mVar 10) (mCons (mApp min2D (mCons (mVar 11) (mCons (mVar 12) mNil))) mNil))
def M_best_of : Rho → SR :=
  mSeq (mPar [2, 3] [.fresh, .fresh] (mCons (mLd mNil) (mCons (mLd (mCons (mC (.int 0)) mNil)) mNil)))
  (mSeq (mFor (mItA zipK (mCons (mVar 0) (mCons (mVar 1) mNil))) (.tup [4, 5]) L1_best_of)
  (mSeq (mAsg (.tup [6, 7]) (mArgs [] (mCons (mVarZ 2) (mCons (mLst (mUn setD (mVarZ 3))) (mCons (mC (.int 1)) (mCons (mC (.int 1)) mNil)))) F_best_bases))
  (mRet (mTup (mCons (mVar 6) (mCons (mLst (mLc (mItA zipK (mCons (mVar 2) (mCons (mVar 7) mNil))) [10, 11, 12] (.nst [10, 11] [12]) mYes C1_best_of)) mNil))))))
def F_best_of : List D → List D → FR := runF 13 0 .pure M_best_of
def M_fewest_wish : Rho → SR :=
  mSeq (mDrop (mArgs [] (mCons (mVar 0) (mCons (mVar 1) mNil)) F_require_wishes))
  (mRet (mBin ixD (mArgs [] (mCons (mVar 0) (mCons (mVar 1) mNil)) F_best_of) (mC (.int 0))))
def F_fewest_wish : List D → List D → FR := runF 2 0 .pure M_fewest_wish
def M__law_bag : Rho → SR :=
  mSeq (mSet .pure 2 (mC (.int 0)))
  (mSeq (mIfS (mTest (mBin ltD (mVar 1) (mApp lenD (mCons (mVar 0) mNil)))) (mSet .pure 2 (mBin modD (mBin ixD (mVar 0) (mVar 1)) (mBin powD (mC (.int 10)) (mC (.int 60))))) mPass)
  (mSeq (mSet .pure 3 (mBin addD (mC (.int 1)) (mBin modD (mBin addD (mBin addD (mBin addD (mBin mulA (mBin modD (mVar 2) (mC (.int 2147483629))) (mC (.int 16807))) (mBin mulA (mBin mulA (mC (.int 40009)) (mVar 1)) (mVar 1))) (mBin mulA (mC (.int 7919)) (mVar 1))) (mC (.int 1009))) (mC (.int 2147483645)))))
  (mSeq (mIfS (mTest (mBin ltD (mVar 2) (mBin powD (mC (.int 10)) (mC (.int 18))))) (mRetF (mLd (mCons (mC (.int 0)) (mCons (mVar 3) mNil)))) mPass)
  (mRetF (mLd (mCons (mVar 2) (mCons (mVar 3) mNil)))))))
def F__law_bag : List D → List D → FR := runF 4 0 .fresh M__law_bag
def M__law_take : Rho → SR :=
  mSeq (mIfS (mTest (mBin gtD (mOwnL ixD 0 (mC (.int 0))) (mC (.int 0)))) (mSeq (mSet .pure 2 (mBin modD (mOwnL ixD 0 (mC (.int 0))) (mVar 1)))
  (mSeq (mSetIx 0 (mC (.int 0)) (mBin fdivD (mOwnL ixD 0 (mC (.int 0))) (mVar 1)))
  (mRet (mVar 2)))) mPass)
  (mSeq (mSetIx 0 (mC (.int 1)) (mBin modD (mBin mulA (mOwnL ixD 0 (mC (.int 1))) (mC (.int 48271))) (mC (.int 2147483647))))
  (mRet (mBin modD (mBin fdivD (mBin modD (mBin mulA (mBin fdivD (mOwnL ixD 0 (mC (.int 1))) (mC (.int 13))) (mBin addD (mBin modD (mOwnL ixD 0 (mC (.int 1))) (mC (.int 32749))) (mC (.int 17)))) (mC (.int 2147483629))) (mC (.int 32))) (mVar 1))))
def F__law_take : List D → List D → FR := runF 3 1 .pure M__law_take
def M__law_of : Rho → SR :=
  mRet (mBin ixD (mVar 1) (mArgs [0] (mCons (mApp lenD (mCons (mVar 1) mNil)) mNil) F__law_take))
def F__law_of : List D → List D → FR := runF 2 1 .pure M__law_of
def L1__law_shifts : Rho → SR :=
  mSeq (mSet .pure 5 (mBin addD (mBin addD (mLst (mLd (mCons (mArgs [0] (mCons (mVar 2) mNil) F__law_take) (mCons (mArgs [0] (mCons (mVar 2) mNil) F__law_take) mNil)))) (mLst (mSlO 3 (mSome (mUn negD (mC (.int 2)))) mNone))) (mLst (mSlO 3 (mSome (mUn negD (mC (.int 1)))) mNone))))
  (mDrop (mAppend 3 (mArgs [0] (mCons (mVar 5) mNil) F__law_of)))
def M__law_shifts : Rho → SR :=
  mSeq (mSet .fresh 3 (mLd mNil))
  (mSeq (mFor (mItA rng1 (mCons (mBin addD (mC (.int 1)) (mArgs [0] (mCons (mVar 1) mNil) F__law_take)) mNil)) (.name 4) L1__law_shifts)
  (mRetO 3))
def F__law_shifts : List D → List D → FR := runF 6 1 .fresh M__law_shifts
def C1__law_times : Rho → Res D :=
  mBin subD (mArgs [0] (mCons (mBin addD (mBin mulA (mC (.int 2)) (mVar 2)) (mC (.int 1))) mNil) F__law_take) (mVar 2)
def M__law_times : Rho → SR :=
  mRet (mApp tupleD (mCons (mLst (mLc (mItA rng1 (mCons (mVar 1) mNil)) [3] (.name 3) mYes C1__law_times)) mNil))
def F__law_times : List D → List D → FR := runF 4 1 .pure M__law_times
def C1__law_moved : Rho → Res D :=
  mBin addD (mVar 2) (mVar 3)
def M__law_moved : Rho → SR :=
  mRet (mApp tupleD (mCons (mLst (mLc (mItA zipK (mCons (mVar 0) (mCons (mVar 1) mNil))) [2, 3] (.tup [2, 3]) mYes C1__law_moved)) mNil))
def F__law_moved : List D → List D → FR := runF 4 0 .pure M__law_moved
def M__law_int : Rho → SR :=
  mRet (mAndV (mUn (isiD .int) (mVar 0)) (mAndV (mNotV (mUn (isiD .bool) (mVar 0))) (mChain leD leD (mVar 1) (mVar 0) (mVar 2))))
def F__law_int : List D → List D → FR := runF 3 0 .pure M__law_int
def C1__law_is_times : Rho → Res D :=
  mVar 1
def T1__law_is_times : Rho → Res Bool :=
  mNot (mTru (mArgs [] (mCons (mVar 1) (mCons (mBin subD (mC (.int 0)) (mBin powD (mC (.int 10)) (mC (.int 12)))) (mCons (mBin powD (mC (.int 10)) (mC (.int 12))) mNil))) F__law_int))
def M__law_is_times : Rho → SR :=
  mSeq (mIfS (mOr (mNot (mTru (mUn (isiD .tuple) (mVar 0)))) (mNot (mTest (mChain leD leD (mC (.int 1)) (mApp lenD (mCons (mVar 0) mNil)) (mC (.int 30)))))) (mRet (mC (.bool false))) mPass)
  (mRet (mBin eqD (mLst (mLc (mSeqI (mVar 0)) [1] (.name 1) T1__law_is_times C1__law_is_times)) (mLst (mLd mNil))))
def F__law_is_times : List D → List D → FR := runF 2 0 .pure M__law_is_times
def M__law_bent : Rho → SR :=
  mSeq (mSet .pure 2 (mLst (mLd (mCons (mC (.int 0)) (mCons (mC (.int 1)) (mCons (mC (.bool true)) (mCons (mC .none) (mCons (mC (.str "1")) (mCons (mTup mNil) (mCons (mBin powD (mC (.int 10)) (mC (.int 12))) (mCons (mBin addD (mBin powD (mC (.int 10)) (mC (.int 12))) (mC (.int 1))) (mCons (mBin subD (mC (.int 0)) (mBin powD (mC (.int 10)) (mC (.int 12)))) (mCons (mBin subD (mBin subD (mC (.int 0)) (mBin powD (mC (.int 10)) (mC (.int 12)))) (mC (.int 1))) (mCons (mTup (mCons (mC (.int 1)) mNil)) (mCons (mLst (mLd (mCons (mC (.int 1)) mNil))) mNil)))))))))))))))
  (mSeq (mIfS (mOr (mNot (mTru (mUn (isiD .tuple) (mVar 1)))) (mOr (mTest (mBin eqD (mVar 1) (mTup mNil))) (mTest (mBin eqD (mArgs [0] (mCons (mC (.int 8)) mNil) F__law_take) (mC (.int 0)))))) (mRet (mArgs [0] (mCons (mVar 2) mNil) F__law_of)) mPass)
  (mSeq (mPar [3, 4] [.pure, .pure] (mCons (mArgs [0] (mCons (mApp lenD (mCons (mVar 1) mNil)) mNil) F__law_take) (mCons (mArgs [0] (mCons (mC (.int 8)) mNil) F__law_take) mNil)))
  (mSeq (mIfS (mTest (mBin eqD (mVar 4) (mC (.int 0)))) (mRet (mBin addD (mSl slAD (mVar 1) mNone (mSome (mVar 3))) (mSl slAD (mVar 1) (mSome (mBin addD (mVar 3) (mC (.int 1)))) mNone))) mPass)
  (mSeq (mIfS (mTest (mBin eqD (mVar 4) (mC (.int 1)))) (mRet (mBin addD (mSl slAD (mVar 1) mNone (mSome (mBin addD (mVar 3) (mC (.int 1))))) (mSl slAD (mVar 1) (mSome (mVar 3)) mNone))) mPass)
  (mSeq (mIfS (mTest (mBin eqD (mVar 4) (mC (.int 2)))) (mRet (mLst (mUn revD (mVar 1)))) mPass)
  (mSeq (mIfS (mTest (mBin eqD (mVar 4) (mC (.int 3)))) (mRet (mLst (mApp listD (mCons (mVar 1) mNil)))) mPass)
  (mRet (mBin addD (mBin addD (mSl slAD (mVar 1) mNone (mSome (mVar 3))) (mTup (mCons (mArgs [0] (mCons (mVar 2) mNil) F__law_of) mNil))) (mSl slAD (mVar 1) (mSome (mBin addD (mVar 3) (mC (.int 1)))) mNone)))))))))
def F__law_bent : List D → List D → FR := runF 5 1 .pure M__law_bent
def M_require_length : Rho → SR :=
  mIfS (mNot (mTru (mArgs [] (mCons (mVar 0) (mCons (mC (.int 1)) (mCons (mC (.int 30)) mNil))) F_is_integer))) (mRaise "InvalidLength") mPass
def F_require_length : List D → List D → FR := runF 1 0 .pure M_require_length
def M_is_script : Rho → SR :=
  mSeq (mDrop (mArgs [] (mCons (mVar 0) mNil) F_require_length))
  (mRet (mArgs [] (mCons (mVar 0) (mCons (mVar 1) mNil)) F_are_commands))
def F_is_script : List D → List D → FR := runF 2 0 .pure M_is_script
def L1__law_after : Rho → SR :=
  mSetIx 2 (mVar 4) (mBin addD (mOwnL ixD 2 (mVar 4)) (mBin ixD (mVar 1) (mC (.int 2))))
def M__law_after : Rho → SR :=
  mSeq (mSet .fresh 2 (mApp listD (mCons (mVar 0) mNil)))
  (mSeq (mSet .pure 3 (mIf (mTest (mBin eqD (mBin ixD (mVar 1) (mC (.int 0))) (mC (.str "one")))) (mBin addD (mBin ixD (mVar 1) (mC (.int 1))) (mC (.int 1))) (mApp lenD (mCons (mVar 0) mNil))))
  (mSeq (mFor (mItA rng2 (mCons (mBin ixD (mVar 1) (mC (.int 1))) (mCons (mVar 3) mNil))) (.name 4) L1__law_after)
  (mRet (mOwn1 tuple1 2))))
def F__law_after : List D → List D → FR := runF 5 0 .pure M__law_after
def L1__law_last : Rho → SR :=
  mSet .pure 0 (mArgs [] (mCons (mVar 0) (mCons (mVar 2) mNil)) F__law_after)
def M__law_last : Rho → SR :=
  mSeq (mFor (mSeqI (mVar 1)) (.name 2) L1__law_last)
  (mRet (mVar 0))
def F__law_last : List D → List D → FR := runF 3 0 .pure M__law_last
def L1__law_script : Rho → SR :=
  mSeq (mSet .pure 5 (mIf (mTest (mBin gtD (mArgs [0] (mCons (mC (.int 9)) mNil) F__law_take) (mC (.int 0)))) (mBin addD (mC (.int 1)) (mArgs [0] (mCons (mC (.int 9)) mNil) F__law_take)) (mBin powD (mC (.int 10)) (mC (.int 12)))))
  (mSeq (mPar [6, 7] [.pure, .pure] (mCons (mArgs [0] (mCons (mLst (mLd (mCons (mC (.str "one")) (mCons (mC (.str "following")) mNil)))) mNil) F__law_of) (mCons (mArgs [0] (mCons (mVar 1) mNil) F__law_take) mNil)))
  (mSet .pure 3 (mBin addD (mVar 3) (mTup (mCons (mTup (mCons (mVar 6) (mCons (mVar 7) (mCons (mArgs [0] (mCons (mLst (mLd (mCons (mVar 5) (mCons (mUn negD (mVar 5)) mNil)))) mNil) F__law_of) mNil)))) mNil)))))
def M__law_script : Rho → SR :=
  mSeq (mSet .pure 3 (mTup mNil))
  (mSeq (mFor (mItA rng1 (mCons (mArgs [0] (mCons (mBin addD (mVar 2) (mC (.int 1))) mNil) F__law_take) mNil)) (.name 4) L1__law_script)
  (mRet (mVar 3)))
def F__law_script : List D → List D → FR := runF 8 1 .pure M__law_script
def C1__law_breaks : Rho → Res D :=
  mVar 1
def T1__law_breaks : Rho → Res Bool :=
  mTest (mBin neD (mVar 2) (mBin ixD (mBin addD (mLst (mLd (mCons (mC (.int 0)) mNil))) (mVar 0)) (mVar 1)))
def M__law_breaks : Rho → SR :=
  mRetF (mLc (mItA enumA (mCons (mVar 0) mNil)) [1, 2] (.tup [1, 2]) T1__law_breaks C1__law_breaks)
def F__law_breaks : List D → List D → FR := runF 3 0 .fresh M__law_breaks
def C1__law_returns : Rho → Res D :=
  mVar 8
def T1__law_returns : Rho → Res Bool :=
  mAnd (mTest (mBin eqD (mVar 7) (mVar 5))) (mTest (mBin ltD (mVar 8) (mVar 4)))
def L1__law_returns : Rho → SR :=
  mSeq (mIfS (mTest (mBin eqD (mVar 5) (mVar 3))) (mSet .fresh 2 (mLd mNil)) (mSeq (mDrop (mAppend 2 (mTup (mCons (mVar 3) (mCons (mVar 4) mNil)))))
  (mSeq (mSetLF 6 (mLcO 2 [7, 8] (.tup [7, 8]) T1__law_returns C1__law_returns))
  (mIfS (mTest (mBin neD (mVar 6) (mLst (mLd mNil)))) (mSeq (mDrop (mAppend 1 (mTup (mCons (mBin ixD (mVar 6) (mUn negD (mC (.int 1)))) (mCons (mVar 4) mNil)))))
  (mSet .fresh 2 (mLd mNil))) mPass))))
  (mSet .pure 3 (mVar 5))
def M__law_returns : Rho → SR :=
  mSeq (mPar [1, 2, 3] [.fresh, .fresh, .pure] (mCons (mLd mNil) (mCons (mLd mNil) (mCons (mC (.int 0)) mNil))))
  (mSeq (mFor (mItA enumA (mCons (mVar 0) mNil)) (.tup [4, 5]) L1__law_returns)
  (mRetO 1))
def F__law_returns : List D → List D → FR := runF 9 0 .fresh M__law_returns
def L1__law_is_command : Rho → SR :=
  mIfS (mOr (mNot (mTru (mUn (isiD .int) (mVar 2)))) (mOr (mTru (mUn (isiD .bool) (mVar 2))) (mNot (mTest (mChain leD leD (mVar 3) (mVar 2) (mVar 4)))))) (mRet (mC (.bool false))) mPass
def M__law_is_command : Rho → SR :=
  mSeq (mIfS (mOr (mNot (mTru (mUn (isiD .tuple) (mVar 1)))) (mOr (mTest (mBin neD (mApp lenD (mCons (mVar 1) mNil)) (mC (.int 3)))) (mTest (mBin (inD true) (mBin ixD (mVar 1) (mC (.int 0))) (mLst (mLd (mCons (mC (.str "one")) (mCons (mC (.str "following")) mNil)))))))) (mRet (mC (.bool false))) mPass)
  (mSeq (mFor (mSeqI (mLst (mLd (mCons (mTup (mCons (mBin ixD (mVar 1) (mC (.int 1))) (mCons (mC (.int 0)) (mCons (mBin subD (mVar 0) (mC (.int 1))) mNil)))) (mCons (mTup (mCons (mBin ixD (mVar 1) (mC (.int 2))) (mCons (mBin mulA (mUn negD (mC (.int 4))) (mBin powD (mC (.int 10)) (mC (.int 12)))) (mCons (mBin mulA (mC (.int 4)) (mBin powD (mC (.int 10)) (mC (.int 12)))) mNil)))) mNil))))) (.tup [2, 3, 4]) L1__law_is_command)
  (mRet (mBin neD (mBin ixD (mVar 1) (mC (.int 2))) (mC (.int 0)))))
def F__law_is_command : List D → List D → FR := runF 5 0 .pure M__law_is_command
def M_sums_of : Rho → SR :=
  mRetF (mApp listD (mCons (mArgs [] (mCons (mBin mulA (mTup (mCons (mC (.int 0)) mNil)) (mVar 0)) (mCons (mVar 1) mNil)) F_last_of) mNil))
def F_sums_of : List D → List D → FR := runF 2 0 .fresh M_sums_of
def M_effect : Rho → SR :=
  mSeq (mDrop (mArgs [] (mCons (mVar 0) mNil) F_require_length))
  (mSeq (mDrop (mArgs [] (mCons (mVar 0) (mCons (mVar 1) mNil)) F_require_script))
  (mRetF (mArgs [] (mCons (mVar 0) (mCons (mVar 1) mNil)) F_sums_of)))
def F_effect : List D → List D → FR := runF 2 0 .fresh M_effect
def C1_normal : Rho → Res D :=
  mTup (mCons (mC (.str "following")) (mCons (mVar 3) (mCons (mVar 4) mNil)))
def T1_normal : Rho → Res Bool :=
  mTest (mBin neD (mVar 4) (mC (.int 0)))
def M_normal : Rho → SR :=
  mSeq (mDrop (mArgs [] (mCons (mVar 0) mNil) F_require_length))
  (mSeq (mDrop (mArgs [] (mCons (mVar 0) (mCons (mVar 1) mNil)) F_require_script))
  (mSeq (mSet .pure 2 (mLst (mArgs [] (mCons (mLst (mArgs [] (mCons (mVar 0) (mCons (mVar 1) mNil)) F_sums_of)) mNil) F_steps_of)))
  (mRet (mApp tupleD (mCons (mLst (mLc (mItA enumA (mCons (mVar 2) mNil)) [3, 4] (.tup [3, 4]) T1_normal C1_normal)) mNil)))))
def F_normal : List D → List D → FR := runF 5 0 .pure M_normal
def L1__law_mixed : Rho → SR :=
  mDrop (mAppend 3 (mPopAt 2 (mArgs [0] (mCons (mOwn1 len1 2) mNil) F__law_take)))
def W1__law_mixed : Rho → Res Bool :=
  mTest (mOwnL neD 2 (mLst (mLd mNil)))
def M__law_mixed : Rho → SR :=
  mSeq (mPar [2, 3] [.fresh, .fresh] (mCons (mApp listD (mCons (mVar 1) mNil)) (mCons (mLd mNil) mNil)))
  (mSeq (mWhile W1__law_mixed L1__law_mixed 100)
  (mRet (mOwn1 tuple1 3)))
def F__law_mixed : List D → List D → FR := runF 4 1 .pure M__law_mixed
def C1__law_normal_right : Rho → Res D :=
  mVar 5
def C2__law_normal_right : Rho → Res D :=
  mC (.int 1)
def T1__law_normal_right : Rho → Res Bool :=
  mOr (mTest (mBin neD (mBin ixD (mVar 7) (mC (.int 0))) (mC (.str "following")))) (mTest (mBin eqD (mBin ixD (mVar 7) (mC (.int 2))) (mC (.int 0))))
def M__law_normal_right : Rho → SR :=
  mSeq (mSetLF 3 (mLc (mSeqI (mVar 1)) [4, 5, 6] (.tup [4, 5, 6]) mYes C1__law_normal_right))
  (mSeq (mIfS (mOr (mTest (mBin neD (mLst (mLc (mSeqI (mVar 1)) [7] (.name 7) T1__law_normal_right C2__law_normal_right)) (mLst (mLd mNil)))) (mTest (mBin neD (mVar 3) (mLst (mUn setD (mVar 3)))))) (mRet (mC (.bool false))) mPass)
  (mRet (mBin eqD (mLst (mApp listD (mCons (mArgs [] (mCons (mBin mulA (mTup (mCons (mC (.int 0)) mNil)) (mVar 0)) (mCons (mVar 1) mNil)) F__law_last) mNil))) (mVar 2))))
def F__law_normal_right : List D → List D → FR := runF 8 0 .pure M__law_normal_right
def M_missing_amount : Rho → SR :=
  mSeq (mDrop (mArgs [] (mCons (mVar 0) mNil) F_require_times))
  (mSeq (mDrop (mArgs [] (mCons (mApp lenD (mCons (mVar 0) mNil)) (mCons (mVar 1) mNil)) F_require_script))
  (mSeq (mIfS (mNot (mTru (mArgs [] (mCons (mVar 2) (mCons (mC (.int 0)) (mCons (mBin subD (mApp lenD (mCons (mVar 1) mNil)) (mC (.int 1))) mNil))) F_is_integer))) (mRaise "InvalidIndex") mPass)
  (mSeq (mDrop (mArgs [] (mCons (mVar 0) (mCons (mVar 3) mNil)) F_require_result))
  (mSeq (mSet .pure 4 (mArgs [] (mCons (mVar 0) (mCons (mBin addD (mSl slAD (mVar 1) mNone (mSome (mVar 2))) (mSl slAD (mVar 1) (mSome (mBin addD (mVar 2) (mC (.int 1)))) mNone)) mNil)) F_last_of))
  (mSeq (mAsg (.tup [5, 6, 7]) (mBin ixD (mVar 1) (mVar 2)))
  (mSeq (mSet .pure 7 (mBin subD (mBin ixD (mVar 3) (mVar 6)) (mBin ixD (mVar 4) (mVar 6))))
  (mSeq (mIfS (mOr (mNot (mTru (mArgs [] (mCons (mVar 7) mNil) F_is_amount))) (mTest (mBin neD (mArgs [] (mCons (mVar 4) (mCons (mTup (mCons (mTup (mCons (mVar 5) (mCons (mVar 6) (mCons (mVar 7) mNil)))) mNil)) mNil)) F_last_of) (mVar 3)))) (mRet (mC .none)) mPass)
  (mRet (mVar 7)))))))))
def F_missing_amount : List D → List D → FR := runF 8 0 .pure M_missing_amount
def C1_linked : Rho → Res D :=
  mVar 6
def T1_linked : Rho → Res Bool :=
  mAnd (mTest (mBin eqD (mVar 7) (mC (.str "one")))) (mTest (mBin ltD (mVar 6) (mVar 2)))
def T2_linked : Rho → Res Bool :=
  mOr (mTest (mBin eqD (mVar 7) (mC (.str "following")))) (mTest (mBin eqD (mVar 6) (mVar 2)))
def L1_linked : Rho → SR :=
  mIfS (mAnd (mTest (mBin gtD (mVar 6) (mC (.int 0)))) (mTest (mBin (inD false) (mBin subD (mVar 6) (mC (.int 1))) (mVar 3)))) (mSeq (mAsg (.tup [9, 10, 11]) (mOwnL ixD 5 (mUn negD (mC (.int 1)))))
  (mSetIx 5 (mUn negD (mC (.int 1))) (mTup (mCons (mVar 9) (mCons (mVar 6) (mCons (mOrV (mVar 11) (mBin (inD false) (mVar 6) (mVar 4))) mNil)))))) (mIfS (mOr (mTest (mBin (inD false) (mVar 6) (mVar 3))) (mTest (mBin (inD false) (mVar 6) (mVar 4)))) (mDrop (mAppend 5 (mTup (mCons (mVar 6) (mCons (mVar 6) (mCons (mBin (inD false) (mVar 6) (mVar 4)) mNil)))))) mPass)
def M_linked : Rho → SR :=
  mSeq (mDrop (mArgs [] (mCons (mVar 0) mNil) F_require_length))
  (mSeq (mDrop (mArgs [] (mCons (mVar 0) (mCons (mVar 1) mNil)) F_require_script))
  (mSeq (mSet .pure 2 (mBin subD (mVar 0) (mC (.int 1))))
  (mSeq (mSetLF 3 (mLc (mSeqI (mVar 1)) [7, 6, 8] (.tup [7, 6, 8]) T1_linked C1_linked))
  (mSeq (mSetLF 4 (mLc (mSeqI (mVar 1)) [7, 6, 8] (.tup [7, 6, 8]) T2_linked C1_linked))
  (mSeq (mSet .fresh 5 (mLd mNil))
  (mSeq (mFor (mItA rng1 (mCons (mVar 0) mNil)) (.name 6) L1_linked)
  (mRetO 5)))))))
def F_linked : List D → List D → FR := runF 12 0 .fresh M_linked
def M_require_counts : Rho → SR :=
  mSeq (mIfS (mNot (mTru (mArgs [] (mCons (mVar 0) (mCons (mC (.int 1)) (mCons (mC (.int 12)) mNil))) F_is_integer))) (mRaise "InvalidLength") mPass)
  (mIfS (mNot (mTru (mArgs [] (mCons (mVar 1) (mCons (mC (.int 0)) (mCons (mC (.int 4)) mNil))) F_is_integer))) (mRaise "InvalidNumber") mPass)
def F_require_counts : List D → List D → FR := runF 2 0 .pure M_require_counts
def M_least_price : Rho → SR :=
  mSeq (mDrop (mArgs [] (mCons (mVar 0) (mCons (mVar 1) (mCons (mVar 2) (mCons (mVar 3) mNil)))) F_require_prices))
  (mRet (mBin ixD (mArgs [] (mCons (mLst (mArgs [] (mCons (mVar 0) (mCons (mVar 1) mNil)) F_shifts_of)) (mCons (mVar 2) (mCons (mVar 3) mNil))) F_exact_bases) (mC (.int 0))))
def F_least_price : List D → List D → FR := runF 4 0 .pure M_least_price
def C1_steady_plan : Rho → Res D :=
  mVar 7
def T1_steady_plan : Rho → Res Bool :=
  mTru (mArgs [] (mCons (mArgs [] (mCons (mVar 5) (mCons (mVar 7) mNil)) F_after) (mCons (mVar 2) mNil)) F_keeps)
def L1_steady_plan : Rho → SR :=
  mSeq (mSet .pure 6 (mBin ixD (mLst (mLcO 3 [7] (.name 7) T1_steady_plan C1_steady_plan)) (mC (.int 0))))
  (mSeq (mSet .pure 5 (mArgs [] (mCons (mVar 5) (mCons (mVar 6) mNil)) F_after))
  (mSeq (mDrop (mRemove 3 (mVar 6)))
  (mDrop (mAppend 4 (mVar 6)))))
def W1_steady_plan : Rho → Res Bool :=
  mTruO 3
def M_steady_plan : Rho → SR :=
  mSeq (mDrop (mArgs [] (mCons (mVar 0) (mCons (mVar 1) mNil)) F_require_rows))
  (mSeq (mDrop (mArgs [] (mCons (mVar 2) mNil) F_require_gap))
  (mSeq (mIfS (mOr (mNot (mTru (mArgs [] (mCons (mVar 0) (mCons (mVar 2) mNil)) F_keeps))) (mNot (mTru (mArgs [] (mCons (mVar 1) (mCons (mVar 2) mNil)) F_keeps)))) (mRaise "NotSteady") mPass)
  (mSeq (mSet .fresh 3 (mApp listD (mCons (mArgs [] (mCons (mLst (mArgs [] (mCons (mVar 0) (mCons (mVar 1) mNil)) F_shifts_of)) mNil) F_script_for) mNil)))
  (mSeq (mPar [4, 5] [.fresh, .pure] (mCons (mLd mNil) (mCons (mVar 0) mNil)))
  (mSeq (mWhile W1_steady_plan L1_steady_plan 100)
  (mRet (mOwn1 tuple1 4)))))))
def F_steady_plan : List D → List D → FR := runF 8 0 .pure M_steady_plan
def C1_best_times : Rho → Res D :=
  mBin addD (mVar 2) (mVar 3)
def M_best_times : Rho → SR :=
  mSeq (mDrop (mArgs [] (mCons (mVar 0) (mCons (mVar 1) mNil)) F_require_wishes))
  (mRet (mApp tupleD (mCons (mLst (mLc (mItA zipK (mCons (mVar 0) (mCons (mBin ixD (mArgs [] (mCons (mVar 0) (mCons (mVar 1) mNil)) F_best_of) (mC (.int 1))) mNil))) [2, 3] (.tup [2, 3]) mYes C1_best_times)) mNil)))
def F_best_times : List D → List D → FR := runF 4 0 .pure M_best_times
def M__law_words : Rho → SR :=
  mSeq (mSet .pure 1 (mLst (mLd (mCons (mC (.str "times")) (mCons (mC (.str "times")) mNil)))))
  (mSeq (mSet .pure 2 (mBin addD (mLst (mLd (mCons (mLst (mLd (mCons (mC (.str "length")) mNil))) (mCons (mVar 1) (mCons (mVar 1) (mCons (mVar 1) (mCons (mVar 1) (mCons (mVar 1) (mCons (mVar 1) (mCons (mLst (mLd (mCons (mC (.str "times")) (mCons (mC (.str "script")) mNil)))) mNil)))))))))) (mBin mulA (mLst (mLd (mCons (mLst (mLd (mCons (mC (.str "length")) (mCons (mC (.str "script")) mNil)))) mNil))) (mC (.int 3)))))
  (mSeq (mSet .pure 2 (mBin addD (mVar 2) (mLst (mLd (mCons (mLst (mLd (mCons (mC (.str "times")) (mCons (mC (.str "gap")) mNil)))) (mCons (mLst (mLd (mCons (mC (.str "times")) (mCons (mC (.str "wishes")) mNil)))) (mCons (mLst (mLd (mCons (mC (.str "times")) (mCons (mC (.str "wishes")) mNil)))) (mCons (mLst (mLd (mCons (mC (.str "length")) (mCons (mC (.str "number")) mNil)))) mNil))))))))
  (mSeq (mSet .pure 2 (mBin addD (mVar 2) (mLst (mLd (mCons (mLst (mLd (mCons (mC (.str "times")) (mCons (mC (.str "times")) (mCons (mC (.str "gap")) mNil))))) (mCons (mLst (mLd (mCons (mC (.str "length")) (mCons (mC (.str "number")) (mCons (mC (.str "number")) mNil))))) (mCons (mLst (mLd (mCons (mC (.str "times")) (mCons (mC (.str "script")) (mCons (mC (.str "times")) mNil))))) mNil)))))))
  (mSeq (mSet .pure 2 (mBin addD (mVar 2) (mBin mulA (mLst (mLd (mCons (mLst (mLd (mCons (mC (.str "times")) (mCons (mC (.str "times")) (mCons (mC (.str "price")) (mCons (mC (.str "price")) mNil)))))) mNil))) (mC (.int 2)))))
  (mRet (mBin ixD (mBin addD (mVar 2) (mLst (mLd (mCons (mLst (mLd (mCons (mC (.str "times")) (mCons (mC (.str "script")) (mCons (mC (.str "index")) (mCons (mC (.str "times")) mNil)))))) mNil)))) (mVar 0)))))))
def F__law_words : List D → List D → FR := runF 3 0 .pure M__law_words
def C1__law_cuts : Rho → Res D :=
  mBin addD (mVar 3) (mTup (mCons (mVar 2) mNil))
def L1__law_cuts : Rho → SR :=
  mSet .pure 1 (mBin addD (mVar 1) (mLst (mLc (mSeqI (mVar 1)) [3] (.name 3) mYes C1__law_cuts)))
def M__law_cuts : Rho → SR :=
  mSeq (mSet .pure 1 (mLst (mLd (mCons (mTup mNil) mNil))))
  (mSeq (mFor (mItA rng1 (mCons (mVar 0) mNil)) (.name 2) L1__law_cuts)
  (mRet (mVar 1)))
def F__law_cuts : List D → List D → FR := runF 4 0 .pure M__law_cuts
def C1__law_alike : Rho → Res D :=
  mVar 2
def T1__law_alike : Rho → Res Bool :=
  mTest (mBin eqD (mVar 2) (mC (.int 0)))
def T2__law_alike : Rho → Res Bool :=
  mTest (mBin eqD (mVar 2) (mVar 3))
def C2__law_alike : Rho → Res D :=
  mApp lenD (mCons (mLst (mLc (mSeqI (mVar 0)) [2] (.name 2) T2__law_alike C1__law_alike)) mNil)
def M__law_alike : Rho → SR :=
  mSeq (mIfS (mTru (mVar 1)) (mRet (mApp lenD (mCons (mLst (mLc (mSeqI (mVar 0)) [2] (.name 2) T1__law_alike C1__law_alike)) mNil))) mPass)
  (mRet (mApp maxD (mCons (mBin addD (mLst (mLd (mCons (mC (.int 0)) mNil))) (mLst (mLc (mSeqI (mVar 0)) [3] (.name 3) mYes C2__law_alike))) mNil)))
def F__law_alike : List D → List D → FR := runF 4 0 .pure M__law_alike
def L1__law_least : Rho → SR :=
  mSeq (mSet .pure 10 (mSl slAD (mVar 0) (mSome (mVar 8)) (mSome (mVar 9))))
  (mSet .pure 7 (mBin addD (mVar 7) (mBin mulA (mVar 1) (mBin subD (mApp lenD (mCons (mVar 10) mNil)) (mArgs [] (mCons (mVar 10) (mCons (mC (.bool false)) mNil)) F__law_alike)))))
def L2__law_least : Rho → SR :=
  mSeq (mSet .pure 5 (mBin addD (mLst (mApp listD (mCons (mVar 4) mNil))) (mLst (mLd (mCons (mApp lenD (mCons (mVar 0) mNil)) mNil)))))
  (mSeq (mSet .pure 6 (mSl slAD (mVar 0) mNone (mSome (mBin ixD (mVar 5) (mC (.int 0))))))
  (mSeq (mSet .pure 7 (mBin addD (mBin mulA (mVar 2) (mApp lenD (mCons (mVar 4) mNil))) (mBin mulA (mVar 1) (mBin subD (mApp lenD (mCons (mVar 6) mNil)) (mArgs [] (mCons (mVar 6) (mCons (mC (.bool true)) mNil)) F__law_alike)))))
  (mSeq (mFor (mItA zipK (mCons (mVar 5) (mCons (mSl slAD (mVar 5) (mSome (mC (.int 1))) mNone) mNil))) (.tup [8, 9]) L1__law_least)
  (mSet .pure 3 (mIf (mOr (mTest (mBin (isD false) (mVar 3) (mC .none))) (mTest (mBin ltD (mVar 7) (mVar 3)))) (mVar 7) (mVar 3))))))
def M__law_least : Rho → SR :=
  mSeq (mSet .pure 3 (mC .none))
  (mSeq (mFor (mSeqI (mArgs [] (mCons (mApp lenD (mCons (mVar 0) mNil)) mNil) F__law_cuts)) (.name 4) L2__law_least)
  (mRet (mVar 3)))
def F__law_least : List D → List D → FR := runF 11 0 .pure M__law_least
def C1__law_most : Rho → Res D :=
  mVar 7
def T1__law_most : Rho → Res Bool :=
  mTest (mBin eqD (mBin ixD (mVar 2) (mBin addD (mVar 7) (mC (.int 1)))) (mBin ixD (mVar 2) (mVar 7)))
def L1__law_most : Rho → SR :=
  mSeq (mSetLF 6 (mLc (mItA rng2 (mCons (mVar 5) (mCons (mBin addD (mVar 3) (mC (.int 1))) mNil))) [7] (.name 7) T1__law_most C1__law_most))
  (mIfS (mAnd (mTest (mBin eqD (mVar 6) (mLst (mLd mNil)))) (mTest (mBin eqD (mBin ixD (mVar 2) (mVar 5)) (mBin ixD (mVar 2) (mBin addD (mVar 3) (mC (.int 1))))))) (mSet .pure 4 (mApp max2D (mCons (mVar 4) (mCons (mBin addD (mOwnL ixD 1 (mVar 5)) (mC (.int 1))) mNil)))) mPass)
def L2__law_most : Rho → SR :=
  mSeq (mSet .pure 4 (mOwnL ixD 1 (mVar 3)))
  (mSeq (mFor (mItA rng3 (mCons (mBin subD (mVar 3) (mC (.int 1))) (mCons (mUn negD (mC (.int 1))) (mCons (mUn negD (mC (.int 1))) mNil)))) (.name 5) L1__law_most)
  (mDrop (mAppend 1 (mVar 4))))
def M__law_most : Rho → SR :=
  mSeq (mPar [1, 2] [.fresh, .pure] (mCons (mLd (mCons (mC (.int 0)) mNil)) (mCons (mBin addD (mLst (mLd (mCons (mC (.int 0)) mNil))) (mVar 0)) mNil)))
  (mSeq (mFor (mItA rng1 (mCons (mApp lenD (mCons (mVar 0) mNil)) mNil)) (.name 3) L2__law_most)
  (mRet (mOwnL ixD 1 (mUn negD (mC (.int 1))))))
def F__law_most : List D → List D → FR := runF 8 0 .pure M__law_most
def C1__law_linked : Rho → Res D :=
  mIf (mTest (mBin eqD (mVar 9) (mVar 11))) (mVar 12) (mVar 9)
def L1__law_linked : Rho → SR :=
  mSeq (mDrop (mAppend 4 (mVar 6)))
  (mIfS (mAnd (mTest (mBin eqD (mVar 5) (mC (.str "one")))) (mTest (mBin ltD (mVar 6) (mBin subD (mVar 0) (mC (.int 1)))))) (mSeq (mDrop (mAppend 4 (mBin addD (mVar 6) (mC (.int 1)))))
  (mSeq (mPar [11, 12] [.pure, .pure] (mCons (mBin ixD (mVar 2) (mBin addD (mVar 6) (mC (.int 1)))) (mCons (mBin ixD (mVar 2) (mVar 6)) mNil)))
  (mSet .pure 2 (mLst (mLc (mSeqI (mVar 2)) [9] (.name 9) mYes C1__law_linked))))) (mDrop (mAppend 3 (mVar 6))))
def C2__law_linked : Rho → Res D :=
  mBin ixD (mVar 2) (mVar 6)
def C3__law_linked : Rho → Res D :=
  mVar 6
def T1__law_linked : Rho → Res Bool :=
  mTest (mBin eqD (mBin ixD (mVar 2) (mVar 6)) (mVar 9))
def T2__law_linked : Rho → Res Bool :=
  mTest (mOwnR (inD false) (mVar 6) 3)
def L2__law_linked : Rho → SR :=
  mSeq (mSetLF 10 (mLc (mItA rng1 (mCons (mVar 0) mNil)) [6] (.name 6) T1__law_linked C3__law_linked))
  (mDrop (mAppend 8 (mTup (mCons (mBin ixD (mVar 10) (mC (.int 0))) (mCons (mBin ixD (mVar 10) (mUn negD (mC (.int 1)))) (mCons (mBin neD (mLst (mLc (mSeqI (mVar 10)) [6] (.name 6) T2__law_linked C3__law_linked)) (mLst (mLd mNil))) mNil))))))
def M__law_linked : Rho → SR :=
  mSeq (mPar [2, 3, 4] [.pure, .fresh, .fresh] (mCons (mLst (mUn lrg1 (mVar 0))) (mCons (mLd mNil) (mCons (mLd mNil) mNil))))
  (mSeq (mFor (mSeqI (mVar 1)) (.tup [5, 6, 7]) L1__law_linked)
  (mSeq (mSet .fresh 8 (mLd mNil))
  (mSeq (mFor (mSeqI (mLst (mUn setD (mLst (mLc (mSeqI (mVarZ 4)) [6] (.name 6) mYes C2__law_linked))))) (.name 9) L2__law_linked)
  (mRetF (mUn srtD (mVarZ 8))))))
def F__law_linked : List D → List D → FR := runF 13 0 .fresh M__law_linked
def C1__law_needed : Rho → Res D :=
  mBin addD (mBin subD (mVar 2) (mVar 1)) (mIf (mTru (mVar 3)) (mC (.int 1)) (mC (.int 0)))
def M__law_needed : Rho → SR :=
  mRet (mApp sumD (mCons (mLst (mLc (mSeqI (mVar 0)) [1, 2, 3] (.tup [1, 2, 3]) mYes C1__law_needed)) mNil))
def F__law_needed : List D → List D → FR := runF 4 0 .pure M__law_needed
def C1__law_cost : Rho → Res D :=
  mIf (mTest (mBin eqD (mBin ixD (mVar 3) (mC (.int 0))) (mC (.str "one")))) (mVar 1) (mVar 2)
def M__law_cost : Rho → SR :=
  mRet (mApp sumD (mCons (mLst (mLc (mSeqI (mVar 0)) [3] (.name 3) mYes C1__law_cost)) mNil))
def F__law_cost : List D → List D → FR := runF 4 0 .pure M__law_cost
def L1__law_row : Rho → SR :=
  mDrop (mAppend 4 (mBin addD (mBin addD (mOwnL ixD 4 (mUn negD (mC (.int 1)))) (mVar 2)) (mArgs [0] (mCons (mVar 3) mNil) F__law_take)))
def M__law_row : Rho → SR :=
  mSeq (mSet .fresh 4 (mLd (mCons (mBin subD (mArgs [0] (mCons (mBin addD (mBin mulA (mC (.int 2)) (mVar 3)) (mC (.int 1))) mNil) F__law_take) (mVar 3)) mNil)))
  (mSeq (mFor (mItA rng1 (mCons (mBin subD (mVar 1) (mC (.int 1))) mNil)) (.name 5) L1__law_row)
  (mRet (mOwn1 tuple1 4)))
def F__law_row : List D → List D → FR := runF 6 1 .pure M__law_row
def C1__law_steady : Rho → Res D :=
  mC (.int 1)
def T1__law_steady : Rho → Res Bool :=
  mTest (mBin ltD (mBin subD (mVar 3) (mVar 2)) (mVar 1))
def M__law_steady : Rho → SR :=
  mRet (mBin eqD (mLst (mLc (mItA zipK (mCons (mVar 0) (mCons (mSl slAD (mVar 0) (mSome (mC (.int 1))) mNone) mNil))) [2, 3] (.tup [2, 3]) T1__law_steady C1__law_steady)) (mLst (mLd mNil)))
def F__law_steady : List D → List D → FR := runF 4 0 .pure M__law_steady
def L1__law_near : Rho → SR :=
  mSetIx 3 (mVar 9) (mBin addD (mOwnL ixD 3 (mVar 9)) (mVar 8))
def L2__law_near : Rho → SR :=
  mSeq (mSet .pure 5 (mArgs [0] (mCons (mOwn1 len1 3) mNil) F__law_take))
  (mSeq (mSet .pure 6 (mIf (mTest (mBin gtD (mVar 5) (mC (.int 0)))) (mBin subD (mBin subD (mOwnL ixD 3 (mVar 5)) (mOwnL ixD 3 (mBin subD (mVar 5) (mC (.int 1))))) (mVar 2)) (mC (.int 9))))
  (mSeq (mSet .pure 7 (mIf (mTest (mBin ltD (mBin addD (mVar 5) (mC (.int 1))) (mOwn1 len1 3))) (mBin subD (mBin subD (mOwnL ixD 3 (mBin addD (mVar 5) (mC (.int 1)))) (mOwnL ixD 3 (mVar 5))) (mVar 2)) (mC (.int 9))))
  (mIfS (mTest (mBin eqD (mArgs [0] (mCons (mC (.int 2)) mNil) F__law_take) (mC (.int 0)))) (mSeq (mSet .pure 8 (mBin subD (mArgs [0] (mCons (mBin addD (mBin addD (mVar 6) (mVar 7)) (mC (.int 1))) mNil) F__law_take) (mVar 6)))
  (mSetIx 3 (mVar 5) (mBin addD (mOwnL ixD 3 (mVar 5)) (mVar 8)))) (mSeq (mSet .pure 8 (mBin subD (mArgs [0] (mCons (mBin addD (mVar 6) (mC (.int 5))) mNil) F__law_take) (mVar 6)))
  (mFor (mItA rng2 (mCons (mVar 5) (mCons (mOwn1 len1 3) mNil))) (.name 9) L1__law_near)))))
def M__law_near : Rho → SR :=
  mSeq (mSet .fresh 3 (mApp listD (mCons (mVar 1) mNil)))
  (mSeq (mFor (mItA rng1 (mCons (mArgs [0] (mCons (mC (.int 12)) mNil) F__law_take) mNil)) (.name 4) L2__law_near)
  (mRet (mOwn1 tuple1 3)))
def F__law_near : List D → List D → FR := runF 10 1 .pure M__law_near
def L1__law_wishes : Rho → SR :=
  mSeq (mSet .pure 5 (mBin subD (mBin addD (mVar 4) (mArgs [0] (mCons (mBin addD (mBin mulA (mC (.int 2)) (mVar 2)) (mC (.int 1))) mNil) F__law_take)) (mVar 2)))
  (mSeq (mSet .pure 6 (mTup (mCons (mVar 5) (mCons (mBin addD (mVar 5) (mArgs [0] (mCons (mLst (mLd (mCons (mC (.int 0)) (mCons (mArgs [0] (mCons (mBin addD (mVar 2) (mC (.int 1))) mNil) F__law_take) mNil)))) mNil) F__law_of)) mNil))))
  (mSet .pure 3 (mBin addD (mVar 3) (mTup (mCons (mArgs [0] (mCons (mLst (mLd (mCons (mC .none) (mCons (mVar 6) (mCons (mVar 6) (mCons (mVar 6) mNil)))))) mNil) F__law_of) mNil)))))
def M__law_wishes : Rho → SR :=
  mSeq (mSet .pure 3 (mTup mNil))
  (mSeq (mFor (mSeqI (mVar 1)) (.name 4) L1__law_wishes)
  (mRet (mVar 3)))
def F__law_wishes : List D → List D → FR := runF 7 1 .pure M__law_wishes
def M__law_around : Rho → SR :=
  mSeq (mSet .pure 3 (mTup (mCons (mBin subD (mVar 1) (mArgs [0] (mCons (mVar 2) mNil) F__law_take)) (mCons (mBin addD (mVar 1) (mArgs [0] (mCons (mVar 2) mNil) F__law_take)) mNil))))
  (mRet (mArgs [0] (mCons (mLst (mLd (mCons (mC .none) (mCons (mVar 3) (mCons (mVar 3) (mCons (mTup (mCons (mVar 1) (mCons (mVar 1) mNil))) mNil)))))) mNil) F__law_of))
def F__law_around : List D → List D → FR := runF 4 1 .pure M__law_around
def L1__law_loose_right : Rho → SR :=
  mSeq (mSet .pure 7 (mC .none))
  (mSeq (mIfS (mTest (mBin (isD true) (mVar 5) (mC .none))) (mSet .pure 7 (mTup (mCons (mBin subD (mBin ixD (mVar 5) (mC (.int 0))) (mArgs [0] (mCons (mC (.int 3)) mNil) F__law_take)) (mCons (mBin addD (mBin ixD (mVar 5) (mC (.int 1))) (mArgs [0] (mCons (mC (.int 3)) mNil) F__law_take)) mNil)))) mPass)
  (mDrop (mAppend 4 (mArgs [0] (mCons (mLst (mLd (mCons (mC .none) (mCons (mVar 7) mNil)))) mNil) F__law_of))))
def C1__law_loose_right : Rho → Res D :=
  mTup (mCons (mBin subD (mVar 8) (mC (.int 1))) (mCons (mBin addD (mVar 8) (mArgs [0] (mCons (mC (.int 2)) mNil) F__law_take)) mNil))
def M__law_loose_right : Rho → SR :=
  mSeq (mSet .fresh 4 (mLd mNil))
  (mSeq (mFor (mSeqI (mVar 2)) (.name 5) L1__law_loose_right)
  (mSeq (mIfS (mOr (mTest (mBin gtD (mArgs [] (mCons (mVar 1) (mCons (mOwn1 tuple1 4) mNil)) F_fewest_wish) (mVar 3))) (mTest (mBin neD (mArgs [] (mCons (mVar 1) (mCons (mBin mulA (mTup (mCons (mC .none) mNil)) (mApp lenD (mCons (mVar 1) mNil))) mNil)) F_best_times) (mVar 1)))) (mRet (mC (.bool false))) mPass)
  (mSeq (mSet .pure 6 (mApp tupleD (mCons (mLst (mLc (mSeqI (mVar 1)) [8] (.name 8) mYes C1__law_loose_right)) mNil)))
  (mRet (mAndV (mBin eqD (mArgs [] (mCons (mVar 1) (mCons (mVar 6) mNil)) F_fewest_wish) (mC (.int 0))) (mBin eqD (mArgs [] (mCons (mVar 1) (mCons (mVar 6) mNil)) F_best_times) (mVar 1)))))))
def F__law_loose_right : List D → List D → FR := runF 9 1 .pure M__law_loose_right
def C1__law_rows : Rho → Res D :=
  mBin addD (mVar 5) (mLst (mLd (mCons (mVar 6) mNil)))
def L1__law_rows : Rho → SR :=
  mSet .pure 4 (mBin addD (mVar 4) (mLst (mLc (mItA rng1 (mCons (mBin addD (mVar 1) (mC (.int 1))) mNil)) [6] (.name 6) mYes C1__law_rows)))
def L2__law_rows : Rho → SR :=
  mSeq (mSet .pure 4 (mLst (mLd mNil)))
  (mSeq (mFor (mSeqI (mVar 2)) (.name 5) L1__law_rows)
  (mSet .pure 2 (mVar 4)))
def M__law_rows : Rho → SR :=
  mSeq (mSet .pure 2 (mLst (mLd (mCons (mLst (mLd mNil)) mNil))))
  (mSeq (mFor (mItA rng1 (mCons (mVar 0) mNil)) (.name 3) L2__law_rows)
  (mRet (mVar 2)))
def F__law_rows : List D → List D → FR := runF 7 0 .pure M__law_rows
def M__law_action : Rho → SR :=
  mSeq (mPar [2, 3] [.pure, .pure] (mCons (mArgs [0] (mCons (mC (.int 10)) mNil) F__law_take) (mCons (mArgs [0] (mCons (mLst (mLd (mCons (mC (.str "one")) (mCons (mC (.str "following")) mNil)))) mNil) F__law_of) mNil)))
  (mSeq (mPar [4, 5] [.pure, .pure] (mCons (mArgs [0] (mCons (mVar 1) mNil) F__law_take) (mCons (mArgs [0] (mCons (mLst (mLd (mCons (mC (.int 1)) (mCons (mC (.int 2)) (mCons (mC (.int 5)) (mCons (mUn negD (mC (.int 3))) (mCons (mUn negD (mC (.int 5))) mNil))))))) mNil) F__law_of) mNil)))
  (mSeq (mIfS (mTest (mBin ltD (mVar 2) (mC (.int 5)))) (mRet (mTup (mCons (mVar 3) (mCons (mVar 4) (mCons (mVar 5) mNil))))) mPass)
  (mSeq (mIfS (mTest (mBin eqD (mVar 2) (mC (.int 5)))) (mRet (mTup (mCons (mVar 3) (mCons (mArgs [0] (mCons (mLst (mLd (mCons (mC .none) (mCons (mUn negD (mC (.int 1))) (mCons (mVar 1) (mCons (mC (.bool true)) (mCons (mVar 4) mNil))))))) mNil) F__law_of) (mCons (mArgs [0] (mCons (mLst (mLd (mCons (mC (.int 0)) (mCons (mC .none) (mCons (mC (.bool true)) (mCons (mBin addD (mBin mulA (mC (.int 4)) (mBin powD (mC (.int 10)) (mC (.int 12)))) (mC (.int 1))) mNil)))))) mNil) F__law_of) mNil))))) mPass)
  (mSeq (mIfS (mTest (mBin ltD (mVar 2) (mC (.int 8)))) (mRet (mTup (mCons (mC (.str "undo")) mNil))) mPass)
  (mSeq (mSet .pure 6 (mLst (mLd (mCons (mBin mulA (mTup (mCons (mC (.int 1)) mNil)) (mBin addD (mBin modD (mVar 1) (mC (.int 4))) (mC (.int 1)))) (mCons (mBin mulA (mTup (mCons (mC .none) mNil)) (mVar 1)) mNil)))))
  (mRet (mTup (mCons (mC (.str "to")) (mCons (mArgs [0] (mCons (mBin addD (mLst (mLd (mCons (mArgs [0] (mCons (mVar 1) (mCons (mC (.int 6)) mNil)) F__law_times) (mCons (mArgs [0] (mCons (mVar 1) (mCons (mC (.int 6)) mNil)) F__law_times) mNil)))) (mVar 6)) mNil) F__law_of) mNil)))))))))
def F__law_action : List D → List D → FR := runF 7 1 .pure M__law_action
def C1__law_every_second_right : Rho → Res D :=
  mBin mulA (mC (.int 10)) (mVar 6)
def C2__law_every_second_right : Rho → Res D :=
  mBin addD (mVar 7) (mIf (mTest (mBin eqD (mBin modD (mVar 7) (mC (.int 20))) (mC (.int 0)))) (mVar 1) (mC (.int 0)))
def C3__law_every_second_right : Rho → Res D :=
  mTup (mCons (mBin mulA (mC (.int 2)) (mVar 6)) (mCons (mBin addD (mBin mulA (mC (.int 2)) (mVar 6)) (mC (.int 1))) mNil))
def C4__law_every_second_right : Rho → Res D :=
  mTup (mCons (mC (.str "one")) (mCons (mBin mulA (mC (.int 2)) (mVar 6)) (mCons (mVar 1) mNil)))
def C5__law_every_second_right : Rho → Res D :=
  mTup (mCons (mBin mulA (mC (.int 2)) (mVar 6)) (mCons (mBin addD (mBin mulA (mC (.int 2)) (mVar 6)) (mC (.int 1))) (mCons (mC (.bool false)) mNil)))
def C6__law_every_second_right : Rho → Res D :=
  mTup (mCons (mVar 7) (mCons (mVar 7) mNil))
def M__law_every_second_right : Rho → SR :=
  mSeq (mSet .pure 2 (mBin mulA (mC (.int 2)) (mVar 0)))
  (mSeq (mSet .pure 3 (mApp tupleD (mCons (mLst (mLc (mItA rng1 (mCons (mVar 2) mNil)) [6] (.name 6) mYes C1__law_every_second_right)) mNil)))
  (mSeq (mSet .pure 4 (mApp tupleD (mCons (mLst (mLc (mSeqI (mVar 3)) [7] (.name 7) mYes C2__law_every_second_right)) mNil)))
  (mSeq (mIfS (mOr (mTest (mBin neD (mLst (mArgs [] (mCons (mVar 3) (mCons (mVar 4) mNil)) F_breaks)) (mLst (mUn lrg1 (mVar 2))))) (mTest (mBin neD (mArgs [] (mCons (mVar 3) (mCons (mVar 4) mNil)) F_fewest) (mVar 0)))) (mRet (mC (.bool false))) mPass)
  (mSeq (mIfS (mTest (mBin neD (mLst (mArgs [] (mCons (mVar 3) (mCons (mVar 4) mNil)) F_returns)) (mLst (mLc (mItA rng1 (mCons (mVar 0) mNil)) [6] (.name 6) mYes C3__law_every_second_right)))) (mRet (mC (.bool false))) mPass)
  (mSeq (mIfS (mTest (mBin neD (mLst (mUn srtD (mArgs [] (mCons (mVar 3) (mCons (mVar 4) mNil)) F_plan))) (mLst (mLc (mItA rng1 (mCons (mVar 0) mNil)) [6] (.name 6) mYes C4__law_every_second_right)))) (mRet (mC (.bool false))) mPass)
  (mSeq (mSetLF 5 (mLc (mItA rng1 (mCons (mVar 0) mNil)) [6] (.name 6) mYes C5__law_every_second_right))
  (mSeq (mIfS (mTest (mBin neD (mLst (mArgs [] (mCons (mVar 2) (mCons (mApp tupleD (mCons (mLst (mLc (mItA rng1 (mCons (mVar 0) mNil)) [6] (.name 6) mYes C4__law_every_second_right)) mNil)) mNil)) F_linked)) (mVar 5))) (mRet (mC (.bool false))) mPass)
  (mSeq (mIfS (mOr (mTest (mBin neD (mArgs [] (mCons (mVar 3) (mCons (mVar 4) (mCons (mC (.int 5)) (mCons (mC (.int 1)) mNil)))) F_least_price) (mVar 2))) (mTest (mBin neD (mArgs [] (mCons (mVar 3) (mCons (mVar 4) (mCons (mC (.int 1)) (mCons (mC (.int 5)) mNil)))) F_least_price) (mVar 0)))) (mRet (mC (.bool false))) mPass)
  (mRet (mBin eqD (mArgs [] (mCons (mVar 3) (mCons (mApp tupleD (mCons (mLst (mLc (mSeqI (mVar 4)) [7] (.name 7) mYes C6__law_every_second_right)) mNil)) mNil)) F_fewest_wish) (mVar 0)))))))))))
def F__law_every_second_right : List D → List D → FR := runF 8 0 .pure M__law_every_second_right
end Cap
set_option Elab.async false
set_option linter.all false
set_option maxRecDepth 100000
namespace Lk10
open PySem PySem.Spec L2 Mi Cap
def M__law_good : Rho → SR :=
  mRet (mOrV (mBin (isD false) (mVar 2) (mC .none)) (mChain leD leD (mBin ixD (mVar 2) (mC (.int 0))) (mBin addD (mVar 1) (mVar 0)) (mBin ixD (mVar 2) (mC (.int 1)))))
def F__law_good : List D → List D → FR := runF 3 0 .pure M__law_good
def L1__law_common : Rho → SR :=
  mIfS (mTest (mBin (isD true) (mBin ixD (mVar 1) (mVar 8)) (mC .none))) (mDrop (mAppend 5 (mBin subD (mBin ixD (mBin ixD (mVar 1) (mVar 8)) (mC (.int 0))) (mBin ixD (mVar 0) (mVar 8))))) mPass
def C1__law_common : Rho → Res D :=
  mVar 8
def T1__law_common : Rho → Res Bool :=
  mTru (mArgs [] (mCons (mVar 7) (mCons (mBin ixD (mVar 0) (mVar 8)) (mCons (mBin ixD (mVar 1) (mVar 8)) mNil))) F__law_good)
def L2__law_common : Rho → SR :=
  mDrop (mAppend 6 (mApp lenD (mCons (mLst (mLc (mItA rng2 (mCons (mVar 2) (mCons (mVar 3) mNil))) [8] (.name 8) T1__law_common C1__law_common)) mNil)))
def M__law_common : Rho → SR :=
  mSeq (mSet .fresh 5 (mLd (mCons (mC (.int 0)) mNil)))
  (mSeq (mIfS (mNot (mTru (mVar 4))) (mFor (mItA rng2 (mCons (mVar 2) (mCons (mVar 3) mNil))) (.name 8) L1__law_common) mPass)
  (mSeq (mSet .fresh 6 (mLd mNil))
  (mSeq (mFor (mSeqI (mVarZ 5)) (.name 7) L2__law_common)
  (mRet (mApp maxD (mCons (mVarZ 6) mNil))))))
def F__law_common : List D → List D → FR := runF 9 0 .pure M__law_common
def L1__law_fewest : Rho → SR :=
  mSet .pure 5 (mBin subD (mVar 5) (mArgs [] (mCons (mVar 0) (mCons (mVar 1) (mCons (mVar 7) (mCons (mBin ixD (mVar 4) (mBin addD (mVar 6) (mC (.int 1)))) (mCons (mBin eqD (mVar 6) (mC (.int 0))) mNil))))) F__law_common))
def L2__law_fewest : Rho → SR :=
  mSeq (mSet .pure 4 (mBin addD (mBin addD (mLst (mLd (mCons (mC (.int 0)) mNil))) (mLst (mApp listD (mCons (mVar 3) mNil)))) (mLst (mLd (mCons (mApp lenD (mCons (mVar 0) mNil)) mNil)))))
  (mSeq (mSet .pure 5 (mBin addD (mApp lenD (mCons (mVar 3) mNil)) (mApp lenD (mCons (mVar 0) mNil))))
  (mSeq (mFor (mItA enumA (mCons (mSl slAD (mVar 4) mNone (mSome (mUn negD (mC (.int 1))))) mNil)) (.tup [6, 7]) L1__law_fewest)
  (mSet .pure 2 (mIf (mOr (mTest (mBin (isD false) (mVar 2) (mC .none))) (mTest (mBin ltD (mVar 5) (mVar 2)))) (mVar 5) (mVar 2)))))
def M__law_fewest : Rho → SR :=
  mSeq (mSet .pure 2 (mC .none))
  (mSeq (mFor (mSeqI (mArgs [] (mCons (mApp lenD (mCons (mVar 0) mNil)) mNil) F__law_cuts)) (.name 3) L2__law_fewest)
  (mRet (mVar 2)))
def F__law_fewest : List D → List D → FR := runF 8 0 .pure M__law_fewest
def C1_law : Rho → Res D :=
  mC (.int 1)
def T1_law : Rho → Res Bool :=
  mNot (mTru (mArgs [] (mCons (mC (.int 0)) (mCons (mVar 10) (mCons (mBin ixD (mVar 2) (mVar 9)) mNil))) F__law_good))
def L1_law : Rho → SR :=
  mSeq (mSet .pure 5 (mArgs [3] (mCons (mLst (mLd (mCons (mC (.int 2)) (mCons (mC (.int 4)) (mCons (mC (.int 30)) mNil))))) mNil) F__law_of))
  (mSeq (mSet .pure 6 (mArgs [3] (mCons (mBin addD (mC (.int 1)) (mArgs [3] (mCons (mC (.int 7)) mNil) F__law_take)) (mCons (mC (.int 20)) mNil)) F__law_times))
  (mSeq (mSet .pure 2 (mArgs [3] (mCons (mVar 6) (mCons (mVar 5) mNil)) F__law_wishes))
  (mSeq (mPar [7, 8] [.pure, .pure] (mCons (mArgs [] (mCons (mVar 6) (mCons (mVar 2) mNil)) F__law_fewest) (mCons (mArgs [] (mCons (mVar 6) (mCons (mVar 2) mNil)) F_best_times) mNil)))
  (mSeq (mIfS (mOr (mTest (mBin neD (mArgs [] (mCons (mVar 6) (mCons (mVar 2) mNil)) F_fewest_wish) (mVar 7))) (mTest (mBin neD (mArgs [] (mCons (mVar 6) (mCons (mVar 8) mNil)) F_fewest) (mVar 7)))) (mRet (mC (.bool false))) mPass)
  (mSeq (mIfS (mOr (mNot (mTru (mUn (isiD .tuple) (mVar 8)))) (mTest (mBin neD (mApp lenD (mCons (mVar 8) mNil)) (mApp lenD (mCons (mVar 6) mNil))))) (mRet (mC (.bool false))) mPass)
  (mIfS (mTest (mBin neD (mLst (mLc (mItA enumA (mCons (mVar 8) mNil)) [9, 10] (.tup [9, 10]) T1_law C1_law)) (mLst (mLd mNil)))) (mRet (mC (.bool false))) mPass))))))
def L2_law : Rho → SR :=
  mSeq (mSet .fresh 3 (mArgs [] (mCons (mVar 0) (mCons (mVar 1) mNil)) F__law_bag))
  (mFor (mItA rng1 (mCons (mC (.int 3)) mNil)) (.name 4) L1_law)
def M_law : Rho → SR :=
  mSeq (mFor (mItA rng1 (mCons (mBin addD (mApp min2D (mCons (mApp lenD (mCons (mVar 0) mNil)) (mCons (mC (.int 5)) mNil))) (mC (.int 2))) mNil)) (.name 1) L2_law)
  (mSeq (mSet .pure 2 (mTup (mCons (mC .none) (mCons (mTup (mCons (mC (.int 12)) (mCons (mC (.int 15)) mNil))) (mCons (mTup (mCons (mC (.int 25)) (mCons (mC (.int 29)) mNil))) (mCons (mTup (mCons (mC (.int 33)) (mCons (mC (.int 33)) mNil))) mNil))))))
  (mRet (mAndV (mBin eqD (mArgs [] (mCons (mTup (mCons (mC (.int 0)) (mCons (mC (.int 10)) (mCons (mC (.int 20)) (mCons (mC (.int 30)) mNil))))) (mCons (mVar 2) mNil)) F_fewest_wish) (mC (.int 2))) (mBin eqD (mArgs [] (mCons (mTup (mCons (mC (.int 0)) (mCons (mC (.int 9)) mNil))) (mCons (mTup (mCons (mTup (mCons (mC (.int 0)) (mCons (mC (.int 0)) mNil))) (mCons (mTup (mCons (mC (.int 4)) (mCons (mC (.int 4)) mNil))) mNil))) mNil)) F_best_times) (mTup (mCons (mC (.int 0)) (mCons (mC (.int 4)) mNil)))))))
def F_law : List D → List D → FR := runF 11 0 .pure M_law
end Lk10
set_option Elab.async false
set_option linter.all false
set_option maxRecDepth 100000
set_option maxHeartbeats 4000000
namespace Lk10
open PySem PySem.Spec L2 Mi Cap
def topS (i : Nat) : Stmt := PySem.Challenge.pw_captionshifts_k10_whole_wished_ranges_by.main.body.getD i (.Pass ⟨0, 0, 0, 0⟩)
abbrev s__law_bag : Stmt := topS 27
theorem sc__law_bag : FnScope ["script", "k", "cell", "seed"] ["script", "k"] (defScope s__law_bag) := ⟨rfl, rfl, rfl, by decide +kernel, rfl, by decide +kernel, by decide +kernel⟩
abbrev s__law_take : Stmt := topS 28
theorem sc__law_take : FnScope ["bag", "count", "found"] ["bag", "count"] (defScope s__law_take) := ⟨rfl, rfl, rfl, by decide +kernel, rfl, by decide +kernel, by decide +kernel⟩
abbrev s__law_of : Stmt := topS 29
theorem sc__law_of : FnScope ["bag", "some"] ["bag", "some"] (defScope s__law_of) := ⟨rfl, rfl, rfl, by decide +kernel, rfl, by decide +kernel, by decide +kernel⟩
abbrev s__law_times : Stmt := topS 31
theorem sc__law_times : FnScope ["bag", "many", "wide", "place"] ["bag", "many", "wide"] (defScope s__law_times) := ⟨rfl, rfl, rfl, by decide +kernel, rfl, by decide +kernel, by decide +kernel⟩
abbrev s__law_wishes : Stmt := topS 36
theorem sc__law_wishes : FnScope ["bag", "times", "wide", "found", "time", "low", "pair"] ["bag", "times", "wide"] (defScope s__law_wishes) := ⟨rfl, rfl, rfl, by decide +kernel, rfl, by decide +kernel, by decide +kernel⟩
abbrev s_is_integer : Stmt := topS 7
theorem sc_is_integer : FnScope ["value", "low", "high"] ["value", "low", "high"] (defScope s_is_integer) := ⟨rfl, rfl, rfl, by decide +kernel, rfl, by decide +kernel, by decide +kernel⟩
abbrev s_is_times : Stmt := topS 8
theorem sc_is_times : FnScope ["value", "time"] ["value"] (defScope s_is_times) := ⟨rfl, rfl, rfl, by decide +kernel, rfl, by decide +kernel, by decide +kernel⟩
abbrev s_require_times : Stmt := topS 9
theorem sc_require_times : FnScope ["times"] ["times"] (defScope s_require_times) := ⟨rfl, rfl, rfl, by decide +kernel, rfl, by decide +kernel, by decide +kernel⟩
abbrev s_is_range : Stmt := topS 17
theorem sc_is_range : FnScope ["value", "end"] ["value"] (defScope s_is_range) := ⟨rfl, rfl, rfl, by decide +kernel, rfl, by decide +kernel, by decide +kernel⟩
abbrev s_require_wishes : Stmt := topS 18
theorem sc_require_wishes : FnScope ["times", "wishes", "wish"] ["times", "wishes"] (defScope s_require_wishes) := ⟨rfl, rfl, rfl, by decide +kernel, rfl, by decide +kernel, by decide +kernel⟩
abbrev s_best_bases : Stmt := topS 15
theorem sc_best_bases : FnScope ["ranges", "bases", "one", "following", "table", "low", "high", "cheap", "later", "base", "changed", "price", "row"] ["ranges", "bases", "one", "following"] (defScope s_best_bases) := ⟨rfl, rfl, rfl, by decide +kernel, rfl, by decide +kernel, by decide +kernel⟩
abbrev s_best_of : Stmt := topS 19
theorem sc_best_of : FnScope ["times", "wishes", "ranges", "bases", "time", "wish", "number", "row", "first", "last", "low", "high", "base"] ["times", "wishes"] (defScope s_best_of) := ⟨rfl, rfl, rfl, by decide +kernel, rfl, by decide +kernel, by decide +kernel⟩
abbrev s_fewest_wish : Stmt := topS 20
theorem sc_fewest_wish : FnScope ["times", "wishes"] ["times", "wishes"] (defScope s_fewest_wish) := ⟨rfl, rfl, rfl, by decide +kernel, rfl, by decide +kernel, by decide +kernel⟩
abbrev s_best_times : Stmt := topS 21
theorem sc_best_times : FnScope ["times", "wishes", "time", "shift"] ["times", "wishes"] (defScope s_best_times) := ⟨rfl, rfl, rfl, by decide +kernel, rfl, by decide +kernel, by decide +kernel⟩
abbrev s__law_cuts : Stmt := topS 33
theorem sc__law_cuts : FnScope ["many", "found", "place", "some"] ["many"] (defScope s__law_cuts) := ⟨rfl, rfl, rfl, by decide +kernel, rfl, by decide +kernel, by decide +kernel⟩
abbrev s__law_good : Stmt := topS 37
theorem sc__law_good : FnScope ["shift", "time", "wish"] ["shift", "time", "wish"] (defScope s__law_good) := ⟨rfl, rfl, rfl, by decide +kernel, rfl, by decide +kernel, by decide +kernel⟩
abbrev s__law_common : Stmt := topS 38
theorem sc__law_common : FnScope ["times", "wishes", "low", "high", "is_first", "some", "counts_so", "shift", "place"] ["times", "wishes", "low", "high", "is_first"] (defScope s__law_common) := ⟨rfl, rfl, rfl, by decide +kernel, rfl, by decide +kernel, by decide +kernel⟩
abbrev s__law_fewest : Stmt := topS 39
theorem sc__law_fewest : FnScope ["times", "wishes", "best", "cuts", "ends", "number", "at", "low"] ["times", "wishes"] (defScope s__law_fewest) := ⟨rfl, rfl, rfl, by decide +kernel, rfl, by decide +kernel, by decide +kernel⟩
abbrev s_require_rows : Stmt := topS 10
theorem sc_require_rows : FnScope ["first", "second"] ["first", "second"] (defScope s_require_rows) := ⟨rfl, rfl, rfl, by decide +kernel, rfl, by decide +kernel, by decide +kernel⟩
abbrev s_steps_of : Stmt := topS 12
theorem sc_steps_of : FnScope ["moved", "old", "new"] ["moved"] (defScope s_steps_of) := ⟨rfl, rfl, rfl, by decide +kernel, rfl, by decide +kernel, by decide +kernel⟩
abbrev s_breaks_of : Stmt := topS 13
theorem sc_breaks_of : FnScope ["moved", "place", "step"] ["moved"] (defScope s_breaks_of) := ⟨rfl, rfl, rfl, by decide +kernel, rfl, by decide +kernel, by decide +kernel⟩
abbrev s_returns_of : Stmt := topS 23
theorem sc_returns_of : FnScope ["moved", "found", "free", "steps", "last", "step", "starts", "first"] ["moved"] (defScope s_returns_of) := ⟨rfl, rfl, rfl, by decide +kernel, rfl, by decide +kernel, by decide +kernel⟩
abbrev s_fewest_of : Stmt := topS 24
theorem sc_fewest_of : FnScope ["moved"] ["moved"] (defScope s_fewest_of) := ⟨rfl, rfl, rfl, by decide +kernel, rfl, by decide +kernel, by decide +kernel⟩
abbrev s_shifts_of : Stmt := topS 11
theorem sc_shifts_of : FnScope ["first", "second", "old", "new"] ["first", "second"] (defScope s_shifts_of) := ⟨rfl, rfl, rfl, by decide +kernel, rfl, by decide +kernel, by decide +kernel⟩
abbrev s_fewest : Stmt := topS 25
theorem sc_fewest : FnScope ["first", "second"] ["first", "second"] (defScope s_fewest) := ⟨rfl, rfl, rfl, by decide +kernel, rfl, by decide +kernel, by decide +kernel⟩
abbrev s_law : Stmt := topS 40
theorem sc_law : FnScope ["script", "k", "wishes", "bag", "turn", "wide", "times", "due", "best", "place", "time"] ["script"] (defScope s_law) := ⟨rfl, rfl, rfl, by decide +kernel, rfl, by decide +kernel, by decide +kernel⟩
structure Top (K : PySem.W.Frag) (mg : Str → Option Value) where
  a__law_bag : Addr
  d__law_bag : FuncData
  F__law_bag : Fun K "_law_bag" "_law_bag" s__law_bag a__law_bag d__law_bag
  g__law_bag : mg "_law_bag" = some (.ref a__law_bag)
  b__law_bag : Binds K d__law_bag ["script", "k"] []
  a__law_take : Addr
  d__law_take : FuncData
  F__law_take : Fun K "_law_take" "_law_take" s__law_take a__law_take d__law_take
  g__law_take : mg "_law_take" = some (.ref a__law_take)
  b__law_take : Binds K d__law_take ["bag", "count"] []
  a__law_of : Addr
  d__law_of : FuncData
  F__law_of : Fun K "_law_of" "_law_of" s__law_of a__law_of d__law_of
  g__law_of : mg "_law_of" = some (.ref a__law_of)
  b__law_of : Binds K d__law_of ["bag", "some"] []
  a__law_times : Addr
  d__law_times : FuncData
  F__law_times : Fun K "_law_times" "_law_times" s__law_times a__law_times d__law_times
  g__law_times : mg "_law_times" = some (.ref a__law_times)
  b__law_times : Binds K d__law_times ["bag", "many", "wide"] []
  a__law_wishes : Addr
  d__law_wishes : FuncData
  F__law_wishes : Fun K "_law_wishes" "_law_wishes" s__law_wishes a__law_wishes d__law_wishes
  g__law_wishes : mg "_law_wishes" = some (.ref a__law_wishes)
  b__law_wishes : Binds K d__law_wishes ["bag", "times", "wide"] []
  a_is_integer : Addr
  d_is_integer : FuncData
  F_is_integer : Fun K "is_integer" "is_integer" s_is_integer a_is_integer d_is_integer
  g_is_integer : mg "is_integer" = some (.ref a_is_integer)
  b_is_integer : Binds K d_is_integer ["value", "low", "high"] []
  a_is_times : Addr
  d_is_times : FuncData
  F_is_times : Fun K "is_times" "is_times" s_is_times a_is_times d_is_times
  g_is_times : mg "is_times" = some (.ref a_is_times)
  b_is_times : Binds K d_is_times ["value"] []
  a_require_times : Addr
  d_require_times : FuncData
  F_require_times : Fun K "require_times" "require_times" s_require_times a_require_times d_require_times
  g_require_times : mg "require_times" = some (.ref a_require_times)
  b_require_times : Binds K d_require_times ["times"] []
  a_is_range : Addr
  d_is_range : FuncData
  F_is_range : Fun K "is_range" "is_range" s_is_range a_is_range d_is_range
  g_is_range : mg "is_range" = some (.ref a_is_range)
  b_is_range : Binds K d_is_range ["value"] []
  a_require_wishes : Addr
  d_require_wishes : FuncData
  F_require_wishes : Fun K "require_wishes" "require_wishes" s_require_wishes a_require_wishes d_require_wishes
  g_require_wishes : mg "require_wishes" = some (.ref a_require_wishes)
  b_require_wishes : Binds K d_require_wishes ["times", "wishes"] []
  a_best_bases : Addr
  d_best_bases : FuncData
  F_best_bases : Fun K "best_bases" "best_bases" s_best_bases a_best_bases d_best_bases
  g_best_bases : mg "best_bases" = some (.ref a_best_bases)
  b_best_bases : Binds K d_best_bases ["ranges", "bases", "one", "following"] []
  a_best_of : Addr
  d_best_of : FuncData
  F_best_of : Fun K "best_of" "best_of" s_best_of a_best_of d_best_of
  g_best_of : mg "best_of" = some (.ref a_best_of)
  b_best_of : Binds K d_best_of ["times", "wishes"] []
  a_fewest_wish : Addr
  d_fewest_wish : FuncData
  F_fewest_wish : Fun K "fewest_wish" "fewest_wish" s_fewest_wish a_fewest_wish d_fewest_wish
  g_fewest_wish : mg "fewest_wish" = some (.ref a_fewest_wish)
  b_fewest_wish : Binds K d_fewest_wish ["times", "wishes"] []
  a_best_times : Addr
  d_best_times : FuncData
  F_best_times : Fun K "best_times" "best_times" s_best_times a_best_times d_best_times
  g_best_times : mg "best_times" = some (.ref a_best_times)
  b_best_times : Binds K d_best_times ["times", "wishes"] []
  a__law_cuts : Addr
  d__law_cuts : FuncData
  F__law_cuts : Fun K "_law_cuts" "_law_cuts" s__law_cuts a__law_cuts d__law_cuts
  g__law_cuts : mg "_law_cuts" = some (.ref a__law_cuts)
  b__law_cuts : Binds K d__law_cuts ["many"] []
  a__law_good : Addr
  d__law_good : FuncData
  F__law_good : Fun K "_law_good" "_law_good" s__law_good a__law_good d__law_good
  g__law_good : mg "_law_good" = some (.ref a__law_good)
  b__law_good : Binds K d__law_good ["shift", "time", "wish"] []
  a__law_common : Addr
  d__law_common : FuncData
  F__law_common : Fun K "_law_common" "_law_common" s__law_common a__law_common d__law_common
  g__law_common : mg "_law_common" = some (.ref a__law_common)
  b__law_common : Binds K d__law_common ["times", "wishes", "low", "high", "is_first"] []
  a__law_fewest : Addr
  d__law_fewest : FuncData
  F__law_fewest : Fun K "_law_fewest" "_law_fewest" s__law_fewest a__law_fewest d__law_fewest
  g__law_fewest : mg "_law_fewest" = some (.ref a__law_fewest)
  b__law_fewest : Binds K d__law_fewest ["times", "wishes"] []
  a_require_rows : Addr
  d_require_rows : FuncData
  F_require_rows : Fun K "require_rows" "require_rows" s_require_rows a_require_rows d_require_rows
  g_require_rows : mg "require_rows" = some (.ref a_require_rows)
  b_require_rows : Binds K d_require_rows ["first", "second"] []
  a_steps_of : Addr
  d_steps_of : FuncData
  F_steps_of : Fun K "steps_of" "steps_of" s_steps_of a_steps_of d_steps_of
  g_steps_of : mg "steps_of" = some (.ref a_steps_of)
  b_steps_of : Binds K d_steps_of ["moved"] []
  a_breaks_of : Addr
  d_breaks_of : FuncData
  F_breaks_of : Fun K "breaks_of" "breaks_of" s_breaks_of a_breaks_of d_breaks_of
  g_breaks_of : mg "breaks_of" = some (.ref a_breaks_of)
  b_breaks_of : Binds K d_breaks_of ["moved"] []
  a_returns_of : Addr
  d_returns_of : FuncData
  F_returns_of : Fun K "returns_of" "returns_of" s_returns_of a_returns_of d_returns_of
  g_returns_of : mg "returns_of" = some (.ref a_returns_of)
  b_returns_of : Binds K d_returns_of ["moved"] []
  a_fewest_of : Addr
  d_fewest_of : FuncData
  F_fewest_of : Fun K "fewest_of" "fewest_of" s_fewest_of a_fewest_of d_fewest_of
  g_fewest_of : mg "fewest_of" = some (.ref a_fewest_of)
  b_fewest_of : Binds K d_fewest_of ["moved"] []
  a_shifts_of : Addr
  d_shifts_of : FuncData
  F_shifts_of : Fun K "shifts_of" "shifts_of" s_shifts_of a_shifts_of d_shifts_of
  g_shifts_of : mg "shifts_of" = some (.ref a_shifts_of)
  b_shifts_of : Binds K d_shifts_of ["first", "second"] []
  a_fewest : Addr
  d_fewest : FuncData
  F_fewest : Fun K "fewest" "fewest" s_fewest a_fewest d_fewest
  g_fewest : mg "fewest" = some (.ref a_fewest)
  b_fewest : Binds K d_fewest ["first", "second"] []
  a_law : Addr
  d_law : FuncData
  F_law : Fun K "law" "law" s_law a_law d_law
  g_law : mg "law" = some (.ref a_law)
  b_law : Binds K d_law ["script"] []
  k_LARGEST : Tok
  c_LARGEST : mg "LARGEST" = some (.int 1000000000000 k_LARGEST)
  k_LONGEST : Tok
  c_LONGEST : mg "LONGEST" = some (.int 30 k_LONGEST)
  z_all : mg "all" = none
  z_bool : mg "bool" = none
  z_enumerate : mg "enumerate" = none
  z_int : mg "int" = none
  z_isinstance : mg "isinstance" = none
  z_len : mg "len" = none
  z_list : mg "list" = none
  z_max : mg "max" = none
  z_min : mg "min" = none
  z_range : mg "range" = none
  z_set : mg "set" = none
  z_sorted : mg "sorted" = none
  z_tuple : mg "tuple" = none
  z_zip : mg "zip" = none
  e_InvalidTimes : Addr
  g_InvalidTimes : mg "InvalidTimes" = some (.ref e_InvalidTimes)
  x_InvalidTimes : PySem.W.excIn K e_InvalidTimes [.type "ValueError", .type "Exception", .type "BaseException", .type "object"] "ValueError.__new__" = true
  k_InvalidTimes : PySem.W.keepIn K (.ref e_InvalidTimes) = true
  s_InvalidTimes : PySem.W.subIn K (.ref e_InvalidTimes) (.type "BaseException") = some true
  t_InvalidTimes : PySem.W.typeIn K (.ref e_InvalidTimes) = some (.type "type")
  e_InvalidWishes : Addr
  g_InvalidWishes : mg "InvalidWishes" = some (.ref e_InvalidWishes)
  x_InvalidWishes : PySem.W.excIn K e_InvalidWishes [.type "ValueError", .type "Exception", .type "BaseException", .type "object"] "ValueError.__new__" = true
  k_InvalidWishes : PySem.W.keepIn K (.ref e_InvalidWishes) = true
  s_InvalidWishes : PySem.W.subIn K (.ref e_InvalidWishes) (.type "BaseException") = some true
  t_InvalidWishes : PySem.W.typeIn K (.ref e_InvalidWishes) = some (.type "type")
section
variable {P : Program} {w : World} {K : PySem.W.Frag} {mg : Str → Option Value} {base : Heap}
theorem ok__law_bag (T : Top K mg) : FnOk P w K mg base (L2.CX P w) 1 T.a__law_bag T.d__law_bag ["script", "k"] (spM K mg 2 0 .fresh F__law_bag) :=
  def_ok (N := ["script", "k", "cell", "seed"]) (np := 2) (no := 0) (k := 0) (m := .fresh) (body := M__law_bag) T.F__law_bag sc__law_bag rfl (by decide) fun cdv A outer s H E F as has hr => by
    obtain rfl := List.length_eq_zero_iff.mp has
    have nd := sc__law_bag.nd
    have tk : Takes (cxOf (L2.CX P w) P w K mg base ["script", "k", "cell", "seed"] "_law_bag" (defScope s__law_bag) T.a__law_bag cdv A outer s H E) (fun cls d _ H' => E cls d H') := takes_of rfl rfl rfl rfl
    have pso : PassesOwn (model P w) (A.deeper (PyProof.Rows.envOfC "_law_bag" (defScope s__law_bag) s.heap.objs.size T.a__law_bag cdv)) (PyProof.Rows.envOfC "_law_bag" (defScope s__law_bag) s.heap.objs.size T.a__law_bag cdv) (cxOf (L2.CX P w) P w K mg base ["script", "k", "cell", "seed"] "_law_bag" (defScope s__law_bag) T.a__law_bag cdv A outer s H E).xe := passes_of rfl
    exact m_sCons (m_set .pure 2 (nopin rfl) nd m_int)
        (m_sCons (m_ifS (m_pcmp op_lt om_cmp (m_var 1) (m_callB call_len_seq cm_len T.z_len (m_cons (m_var 0) m_nil))) (m_sOne (m_set .pure 2 (nopin rfl) nd (m_op op_mod om_mod (m_ix (m_var 0) (m_var 1)) (m_op op_pow om_pow m_int m_int)))) m_sNil)
        (m_sCons (m_set .pure 3 (nopin rfl) nd (m_op op_addA om_add m_int (m_op op_mod om_mod (m_op op_addA om_add (m_op op_addA om_add (m_op op_addA om_add (m_op op_mulA om_mulA (m_op op_mod om_mod (m_var 2) m_int) m_int) (m_op op_mulA om_mulA (m_op op_mulA om_mulA m_int (m_var 1)) (m_var 1))) (m_op op_mulA om_mulA m_int (m_var 1))) m_int) m_int)))
        (m_sCons (m_ifS (m_pcmp op_lt om_cmp (m_var 2) (m_op op_pow om_pow m_int m_int)) (m_sOne (m_retF (m_lst (m_cons m_int (m_cons (m_var 3) m_nil))))) m_sNil)
        (m_sOne (m_retF (m_lst (m_cons (m_var 2) (m_cons (m_var 3) m_nil))))))))
theorem ok__law_take (T : Top K mg) : FnOk P w K mg base (L2.CX P w) 1 T.a__law_take T.d__law_take ["bag", "count"] (spM K mg 2 1 .pure F__law_take) :=
  def_ok (N := ["bag", "count", "found"]) (np := 2) (no := 1) (k := 0) (m := .pure) (body := M__law_take) T.F__law_take sc__law_take rfl (by decide) fun cdv A outer s H E F as has hr => by
    obtain ⟨a0, rfl⟩ := List.length_eq_one_iff.mp has
    have nd := sc__law_take.nd
    have tk : Takes (cxOf (L2.CX P w) P w K mg base ["bag", "count", "found"] "_law_take" (defScope s__law_take) T.a__law_take cdv A outer s H E) (fun cls d _ H' => E cls d H') := takes_of rfl rfl rfl rfl
    have pso : PassesOwn (model P w) (A.deeper (PyProof.Rows.envOfC "_law_take" (defScope s__law_take) s.heap.objs.size T.a__law_take cdv)) (PyProof.Rows.envOfC "_law_take" (defScope s__law_take) s.heap.objs.size T.a__law_take cdv) (cxOf (L2.CX P w) P w K mg base ["bag", "count", "found"] "_law_take" (defScope s__law_take) T.a__law_take cdv A outer s H E).xe := passes_of rfl
    exact m_sCons (m_ifS (m_pcmp op_gt om_cmp (m_ixO (i := 0) ⟨rfl, by first | exact Or.inl rfl | exact Or.inr (Or.inl rfl) | exact Or.inr (Or.inr rfl), by decide, by decide⟩ m_int) m_int) (m_sCons (m_set .pure 2 (nopin rfl) nd (m_op op_mod om_mod (m_ixO (i := 0) ⟨rfl, by first | exact Or.inl rfl | exact Or.inr (Or.inl rfl) | exact Or.inr (Or.inr rfl), by decide, by decide⟩ m_int) (m_var 1)))
        (m_sCons (m_setIx (i := 0) ⟨rfl, by first | exact Or.inl rfl | exact Or.inr (Or.inl rfl) | exact Or.inr (Or.inr rfl), by decide, by decide⟩ (m_op op_fdivW om_fdiv (m_ixO (i := 0) ⟨rfl, by first | exact Or.inl rfl | exact Or.inr (Or.inl rfl) | exact Or.inr (Or.inr rfl), by decide, by decide⟩ m_int) (m_var 1)) m_int)
        (m_sOne (m_ret (m_var 2))))) m_sNil)
        (m_sCons (m_setIx (i := 0) ⟨rfl, by first | exact Or.inl rfl | exact Or.inr (Or.inl rfl) | exact Or.inr (Or.inr rfl), by decide, by decide⟩ (m_op op_mod om_mod (m_op op_mulA om_mulA (m_ixO (i := 0) ⟨rfl, by first | exact Or.inl rfl | exact Or.inr (Or.inl rfl) | exact Or.inr (Or.inr rfl), by decide, by decide⟩ m_int) m_int) m_int) m_int)
        (m_sOne (m_ret (m_op op_mod om_mod (m_op op_fdivW om_fdiv (m_op op_mod om_mod (m_op op_mulA om_mulA (m_op op_fdivW om_fdiv (m_ixO (i := 0) ⟨rfl, by first | exact Or.inl rfl | exact Or.inr (Or.inl rfl) | exact Or.inr (Or.inr rfl), by decide, by decide⟩ m_int) m_int) (m_op op_addA om_add (m_op op_mod om_mod (m_ixO (i := 0) ⟨rfl, by first | exact Or.inl rfl | exact Or.inr (Or.inl rfl) | exact Or.inr (Or.inr rfl), by decide, by decide⟩ m_int) m_int) m_int)) m_int) m_int) (m_var 1)))))
theorem ok__law_of (T : Top K mg) : FnOk P w K mg base (L2.CX P w) 2 T.a__law_of T.d__law_of ["bag", "some"] (spM K mg 2 1 .pure F__law_of) :=
  def_ok (N := ["bag", "some"]) (np := 2) (no := 1) (k := 1) (m := .pure) (body := M__law_of) T.F__law_of sc__law_of rfl (by decide) fun cdv A outer s H E F as has hr => by
    obtain ⟨a0, rfl⟩ := List.length_eq_one_iff.mp has
    have nd := sc__law_of.nd
    have tk : Takes (cxOf (L2.CX P w) P w K mg base ["bag", "some"] "_law_of" (defScope s__law_of) T.a__law_of cdv A outer s H E) (fun cls d _ H' => E cls d H') := takes_of rfl rfl rfl rfl
    have pso : PassesOwn (model P w) (A.deeper (PyProof.Rows.envOfC "_law_of" (defScope s__law_of) s.heap.objs.size T.a__law_of cdv)) (PyProof.Rows.envOfC "_law_of" (defScope s__law_of) s.heap.objs.size T.a__law_of cdv) (cxOf (L2.CX P w) P w K mg base ["bag", "some"] "_law_of" (defScope s__law_of) T.a__law_of cdv A outer s H E).xe := passes_of rfl
    exact m_sOne (m_ret (m_ix (m_var 1) (m_call (is := [0]) (np := 2) (m := .pure) (ok__law_take T) (hr.mono (by decide)) T.g__law_take T.F__law_take.kp T.b__law_take tk (m_ar1 0 (m_ar0 (m_cons (m_callB call_len_seq cm_len T.z_len (m_cons (m_var 1) m_nil)) m_nil))) (fun ρ ds ρ1 h => by have q := (len_cons (fun _ _ _ h => len_nil h)) ρ ds ρ1 h; show 1 + ds.length = 2; omega))))
theorem ok__law_times (T : Top K mg) : FnOk P w K mg base (L2.CX P w) 2 T.a__law_times T.d__law_times ["bag", "many", "wide"] (spM K mg 3 1 .pure F__law_times) :=
  def_ok (N := ["bag", "many", "wide", "place"]) (np := 3) (no := 1) (k := 1) (m := .pure) (body := M__law_times) T.F__law_times sc__law_times rfl (by decide) fun cdv A outer s H E F as has hr => by
    obtain ⟨a0, rfl⟩ := List.length_eq_one_iff.mp has
    have nd := sc__law_times.nd
    have tk : Takes (cxOf (L2.CX P w) P w K mg base ["bag", "many", "wide", "place"] "_law_times" (defScope s__law_times) T.a__law_times cdv A outer s H E) (fun cls d _ H' => E cls d H') := takes_of rfl rfl rfl rfl
    have pso : PassesOwn (model P w) (A.deeper (PyProof.Rows.envOfC "_law_times" (defScope s__law_times) s.heap.objs.size T.a__law_times cdv)) (PyProof.Rows.envOfC "_law_times" (defScope s__law_times) s.heap.objs.size T.a__law_times cdv) (cxOf (L2.CX P w) P w K mg base ["bag", "many", "wide", "place"] "_law_times" (defScope s__law_times) T.a__law_times cdv A outer s H E).xe := passes_of rfl
    exact m_sOne (m_ret (m_callT call_tuple_of cm_tuple T.z_tuple (m_cons (m_frz (m_lc (t := .name 3) (own := [("place", 3)]) nd (m_rng1 T.z_range (m_cons (m_var 1) m_nil)) (show blkC ["bag", "many", "wide", "place"] (defScope s__law_times) _ _ = true from by decide +kernel) (fun _ _ _ _ _ => m_gname 3 (nopin rfl) nd) (fun _ _ _ _ _ => m_yes) (fun _ _ _ _ _ => m_op op_sub om_sub (m_call (is := [0]) (np := 2) (m := .pure) (ok__law_take T) (hr.mono (by decide)) T.g__law_take T.F__law_take.kp T.b__law_take takes0 (m_ar1 0 (m_ar0 (m_cons (m_op op_addA om_add (m_op op_mulA om_mulA m_int (m_var 2)) m_int) m_nil))) (fun ρ ds ρ1 h => by have q := (len_cons (fun _ _ _ h => len_nil h)) ρ ds ρ1 h; show 1 + ds.length = 2; omega)) (m_var 2)) (by simp only [List.map_cons, List.map_nil]; intro i hi; simp only [List.mem_cons, List.not_mem_nil, or_false] at hi; (first | (rcases hi with rfl) | skip) <;> exact nopin rfl))) m_nil)))
theorem ok__law_wishes (T : Top K mg) : FnOk P w K mg base (L2.CX P w) 3 T.a__law_wishes T.d__law_wishes ["bag", "times", "wide"] (spM K mg 3 1 .pure F__law_wishes) :=
  def_ok (N := ["bag", "times", "wide", "found", "time", "low", "pair"]) (np := 3) (no := 1) (k := 2) (m := .pure) (body := M__law_wishes) T.F__law_wishes sc__law_wishes rfl (by decide) fun cdv A outer s H E F as has hr => by
    obtain ⟨a0, rfl⟩ := List.length_eq_one_iff.mp has
    have nd := sc__law_wishes.nd
    have tk : Takes (cxOf (L2.CX P w) P w K mg base ["bag", "times", "wide", "found", "time", "low", "pair"] "_law_wishes" (defScope s__law_wishes) T.a__law_wishes cdv A outer s H E) (fun cls d _ H' => E cls d H') := takes_of rfl rfl rfl rfl
    have pso : PassesOwn (model P w) (A.deeper (PyProof.Rows.envOfC "_law_wishes" (defScope s__law_wishes) s.heap.objs.size T.a__law_wishes cdv)) (PyProof.Rows.envOfC "_law_wishes" (defScope s__law_wishes) s.heap.objs.size T.a__law_wishes cdv) (cxOf (L2.CX P w) P w K mg base ["bag", "times", "wide", "found", "time", "low", "pair"] "_law_wishes" (defScope s__law_wishes) T.a__law_wishes cdv A outer s H E).xe := passes_of rfl
    exact m_sCons (m_set .pure 3 (nopin rfl) nd (m_tup m_nil))
        (m_sCons (m_for (t := .name 4) pso (m_seqI (m_var 1)) (m_gname 4 (nopin rfl) nd) (m_sCons (m_set .pure 5 (nopin rfl) nd (m_op op_sub om_sub (m_op op_addA om_add (m_var 4) (m_call (is := [0]) (np := 2) (m := .pure) (ok__law_take T) (hr.mono (by decide)) T.g__law_take T.F__law_take.kp T.b__law_take tk (m_ar1 0 (m_ar0 (m_cons (m_op op_addA om_add (m_op op_mulA om_mulA m_int (m_var 2)) m_int) m_nil))) (fun ρ ds ρ1 h => by have q := (len_cons (fun _ _ _ h => len_nil h)) ρ ds ρ1 h; show 1 + ds.length = 2; omega))) (m_var 2)))
        (m_sCons (m_set .pure 6 (nopin rfl) nd (m_tup (m_cons (m_var 5) (m_cons (m_op op_addA om_add (m_var 5) (m_call (is := [0]) (np := 2) (m := .pure) (ok__law_of T) (hr.mono (by decide)) T.g__law_of T.F__law_of.kp T.b__law_of tk (m_ar1 0 (m_ar0 (m_cons (m_frz (m_lst (m_cons m_int (m_cons (m_call (is := [0]) (np := 2) (m := .pure) (ok__law_take T) (hr.mono (by decide)) T.g__law_take T.F__law_take.kp T.b__law_take tk (m_ar1 0 (m_ar0 (m_cons (m_op op_addA om_add (m_var 2) m_int) m_nil))) (fun ρ ds ρ1 h => by have q := (len_cons (fun _ _ _ h => len_nil h)) ρ ds ρ1 h; show 1 + ds.length = 2; omega)) m_nil)))) m_nil))) (fun ρ ds ρ1 h => by have q := (len_cons (fun _ _ _ h => len_nil h)) ρ ds ρ1 h; show 1 + ds.length = 2; omega))) m_nil))))
        (m_sOne (m_set .pure 3 (nopin rfl) nd (m_op op_addA om_add (m_var 3) (m_tup (m_cons (m_call (is := [0]) (np := 2) (m := .pure) (ok__law_of T) (hr.mono (by decide)) T.g__law_of T.F__law_of.kp T.b__law_of tk (m_ar1 0 (m_ar0 (m_cons (m_frz (m_lst (m_cons m_non (m_cons (m_var 6) (m_cons (m_var 6) (m_cons (m_var 6) m_nil)))))) m_nil))) (fun ρ ds ρ1 h => by have q := (len_cons (fun _ _ _ h => len_nil h)) ρ ds ρ1 h; show 1 + ds.length = 2; omega)) m_nil))))))))
        (m_sOne (m_ret (m_var 3))))
theorem ok_is_integer (T : Top K mg) : FnOk P w K mg base (L2.CX P w) 1 T.a_is_integer T.d_is_integer ["value", "low", "high"] (spM K mg 3 0 .pure F_is_integer) :=
  def_ok (N := ["value", "low", "high"]) (np := 3) (no := 0) (k := 0) (m := .pure) (body := M_is_integer) T.F_is_integer sc_is_integer rfl (by decide) fun cdv A outer s H E F as has hr => by
    obtain rfl := List.length_eq_zero_iff.mp has
    have nd := sc_is_integer.nd
    have tk : Takes (cxOf (L2.CX P w) P w K mg base ["value", "low", "high"] "is_integer" (defScope s_is_integer) T.a_is_integer cdv A outer s H E) (fun cls d _ H' => E cls d H') := takes_of rfl rfl rfl rfl
    have pso : PassesOwn (model P w) (A.deeper (PyProof.Rows.envOfC "is_integer" (defScope s_is_integer) s.heap.objs.size T.a_is_integer cdv)) (PyProof.Rows.envOfC "is_integer" (defScope s_is_integer) s.heap.objs.size T.a_is_integer cdv) (cxOf (L2.CX P w) P w K mg base ["value", "low", "high"] "is_integer" (defScope s_is_integer) T.a_is_integer cdv A outer s H E).xe := passes_of rfl
    exact m_sOne (m_ret (m_andV (m_isi .int T.z_isinstance T.z_int (m_var 0) (by decide +kernel)) (m_andV (m_notV (m_isi .bool T.z_isinstance T.z_bool (m_var 0) (by decide +kernel))) (pe_one (m_chain op_le op_le cb_cmp cb_cmp bb_cmp bb_cmp (m_var 1) (m_var 0) (m_var 2))))))
theorem ok_is_times (T : Top K mg) : FnOk P w K mg base (L2.CX P w) 2 T.a_is_times T.d_is_times ["value"] (spM K mg 1 0 .pure F_is_times) :=
  def_ok (N := ["value", "time"]) (np := 1) (no := 0) (k := 1) (m := .pure) (body := M_is_times) T.F_is_times sc_is_times rfl (by decide) fun cdv A outer s H E F as has hr => by
    obtain rfl := List.length_eq_zero_iff.mp has
    have nd := sc_is_times.nd
    have tk : Takes (cxOf (L2.CX P w) P w K mg base ["value", "time"] "is_times" (defScope s_is_times) T.a_is_times cdv A outer s H E) (fun cls d _ H' => E cls d H') := takes_of rfl rfl rfl rfl
    have pso : PassesOwn (model P w) (A.deeper (PyProof.Rows.envOfC "is_times" (defScope s_is_times) s.heap.objs.size T.a_is_times cdv)) (PyProof.Rows.envOfC "is_times" (defScope s_is_times) s.heap.objs.size T.a_is_times cdv) (cxOf (L2.CX P w) P w K mg base ["value", "time"] "is_times" (defScope s_is_times) T.a_is_times cdv A outer s H E).xe := passes_of rfl
    exact m_sCons (m_ifS (PW.pt (m_or (m_not (m_truth (m_isi .tuple T.z_isinstance T.z_tuple (m_var 0) (by decide +kernel)))) (pw_or1 (m_not (m_pchain op_le op_le cb_cmp cb_cmp bb_cmp bb_cmp m_int (m_callB call_len_seq cm_len T.z_len (m_cons (m_var 0) m_nil)) (m_glob T.c_LONGEST)))))) (m_sOne (m_ret m_bl)) m_sNil)
        (m_sOne (m_ret (m_callB (cr_all rfl) cm_all T.z_all (m_cons (m_frz (m_lc (t := .name 1) (own := [("time", 1)]) nd (m_seqI (m_var 0)) (show blkC ["value", "time"] (defScope s_is_times) _ _ = true from by decide +kernel) (fun _ _ _ _ _ => m_gname 1 (nopin rfl) nd) (fun _ _ _ _ _ => m_yes) (fun _ _ _ _ _ => m_call (is := []) (np := 3) (m := .pure) (ok_is_integer T) (hr.mono (by decide)) T.g_is_integer T.F_is_integer.kp T.b_is_integer takes0 (m_ar0 (m_cons (m_var 1) (m_cons (m_op op_sub om_sub m_int (m_glob T.c_LARGEST)) (m_cons (m_glob T.c_LARGEST) m_nil)))) (fun ρ ds ρ1 h => by have q := (len_cons (len_cons (len_cons (fun _ _ _ h => len_nil h)))) ρ ds ρ1 h; show 0 + ds.length = 3; omega)) (by simp only [List.map_cons, List.map_nil]; intro i hi; simp only [List.mem_cons, List.not_mem_nil, or_false] at hi; (first | (rcases hi with rfl) | skip) <;> exact nopin rfl))) m_nil))))
theorem ok_require_times (T : Top K mg) : FnOk P w K mg base (L2.CX P w) 3 T.a_require_times T.d_require_times ["times"] (spM K mg 1 0 .pure F_require_times) :=
  def_ok (N := ["times"]) (np := 1) (no := 0) (k := 2) (m := .pure) (body := M_require_times) T.F_require_times sc_require_times rfl (by decide) fun cdv A outer s H E F as has hr => by
    obtain rfl := List.length_eq_zero_iff.mp has
    have nd := sc_require_times.nd
    have tk : Takes (cxOf (L2.CX P w) P w K mg base ["times"] "require_times" (defScope s_require_times) T.a_require_times cdv A outer s H E) (fun cls d _ H' => E cls d H') := takes_of rfl rfl rfl rfl
    have pso : PassesOwn (model P w) (A.deeper (PyProof.Rows.envOfC "require_times" (defScope s_require_times) s.heap.objs.size T.a_require_times cdv)) (PyProof.Rows.envOfC "require_times" (defScope s_require_times) s.heap.objs.size T.a_require_times cdv) (cxOf (L2.CX P w) P w K mg base ["times"] "require_times" (defScope s_require_times) T.a_require_times cdv A outer s H E).xe := passes_of rfl
    exact m_sOne (m_ifS (m_not (m_truth (m_call (is := []) (np := 1) (m := .pure) (ok_is_times T) (hr.mono (by decide)) T.g_is_times T.F_is_times.kp T.b_is_times tk (m_ar0 (m_cons (m_var 0) m_nil)) (fun ρ ds ρ1 h => by have q := (len_cons (fun _ _ _ h => len_nil h)) ρ ds ρ1 h; show 0 + ds.length = 1; omega)))) (m_sOne (m_raise tk PySem.F.excBase_ValueError T.x_InvalidTimes T.g_InvalidTimes T.k_InvalidTimes (raises_own T.s_InvalidTimes T.t_InvalidTimes))) m_sNil)
theorem ok_is_range (T : Top K mg) : FnOk P w K mg base (L2.CX P w) 2 T.a_is_range T.d_is_range ["value"] (spM K mg 1 0 .pure F_is_range) :=
  def_ok (N := ["value", "end"]) (np := 1) (no := 0) (k := 1) (m := .pure) (body := M_is_range) T.F_is_range sc_is_range rfl (by decide) fun cdv A outer s H E F as has hr => by
    obtain rfl := List.length_eq_zero_iff.mp has
    have nd := sc_is_range.nd
    have tk : Takes (cxOf (L2.CX P w) P w K mg base ["value", "end"] "is_range" (defScope s_is_range) T.a_is_range cdv A outer s H E) (fun cls d _ H' => E cls d H') := takes_of rfl rfl rfl rfl
    have pso : PassesOwn (model P w) (A.deeper (PyProof.Rows.envOfC "is_range" (defScope s_is_range) s.heap.objs.size T.a_is_range cdv)) (PyProof.Rows.envOfC "is_range" (defScope s_is_range) s.heap.objs.size T.a_is_range cdv) (cxOf (L2.CX P w) P w K mg base ["value", "end"] "is_range" (defScope s_is_range) T.a_is_range cdv A outer s H E).xe := passes_of rfl
    exact m_sCons (m_ifS (PW.pt (m_or (m_not (m_truth (m_isi .tuple T.z_isinstance T.z_tuple (m_var 0) (by decide +kernel)))) (pw_or1 (m_pcmp (op_neP hr.units) om_ne (m_callB call_len_seq cm_len T.z_len (m_cons (m_var 0) m_nil)) m_int)))) (m_sOne (m_ret m_bl)) m_sNil)
        (m_sCons (m_ifS (m_not (m_truth (m_callB (cr_all rfl) cm_all T.z_all (m_cons (m_frz (m_lc (t := .name 1) (own := [("end", 1)]) nd (m_seqI (m_var 0)) (show blkC ["value", "end"] (defScope s_is_range) _ _ = true from by decide +kernel) (fun _ _ _ _ _ => m_gname 1 (nopin rfl) nd) (fun _ _ _ _ _ => m_yes) (fun _ _ _ _ _ => m_call (is := []) (np := 3) (m := .pure) (ok_is_integer T) (hr.mono (by decide)) T.g_is_integer T.F_is_integer.kp T.b_is_integer takes0 (m_ar0 (m_cons (m_var 1) (m_cons (m_op op_sub om_sub m_int (m_glob T.c_LARGEST)) (m_cons (m_glob T.c_LARGEST) m_nil)))) (fun ρ ds ρ1 h => by have q := (len_cons (len_cons (len_cons (fun _ _ _ h => len_nil h)))) ρ ds ρ1 h; show 0 + ds.length = 3; omega)) (by simp only [List.map_cons, List.map_nil]; intro i hi; simp only [List.mem_cons, List.not_mem_nil, or_false] at hi; (first | (rcases hi with rfl) | skip) <;> exact nopin rfl))) m_nil)))) (m_sOne (m_ret m_bl)) m_sNil)
        (m_sOne (m_ret (m_cmp op_le om_cmp (m_ix (m_var 0) m_int) (m_ix (m_var 0) m_int)))))
theorem ok_require_wishes (T : Top K mg) : FnOk P w K mg base (L2.CX P w) 4 T.a_require_wishes T.d_require_wishes ["times", "wishes"] (spM K mg 2 0 .pure F_require_wishes) :=
  def_ok (N := ["times", "wishes", "wish"]) (np := 2) (no := 0) (k := 3) (m := .pure) (body := M_require_wishes) T.F_require_wishes sc_require_wishes rfl (by decide) fun cdv A outer s H E F as has hr => by
    obtain rfl := List.length_eq_zero_iff.mp has
    have nd := sc_require_wishes.nd
    have tk : Takes (cxOf (L2.CX P w) P w K mg base ["times", "wishes", "wish"] "require_wishes" (defScope s_require_wishes) T.a_require_wishes cdv A outer s H E) (fun cls d _ H' => E cls d H') := takes_of rfl rfl rfl rfl
    have pso : PassesOwn (model P w) (A.deeper (PyProof.Rows.envOfC "require_wishes" (defScope s_require_wishes) s.heap.objs.size T.a_require_wishes cdv)) (PyProof.Rows.envOfC "require_wishes" (defScope s_require_wishes) s.heap.objs.size T.a_require_wishes cdv) (cxOf (L2.CX P w) P w K mg base ["times", "wishes", "wish"] "require_wishes" (defScope s_require_wishes) T.a_require_wishes cdv A outer s H E).xe := passes_of rfl
    exact m_sCons (m_expr (m_call (is := []) (np := 1) (m := .pure) (ok_require_times T) (hr.mono (by decide)) T.g_require_times T.F_require_times.kp T.b_require_times tk (m_ar0 (m_cons (m_var 0) m_nil)) (fun ρ ds ρ1 h => by have q := (len_cons (fun _ _ _ h => len_nil h)) ρ ds ρ1 h; show 0 + ds.length = 1; omega)))
        (m_sCons (m_ifS (PW.pt (m_or (m_not (m_truth (m_isi .tuple T.z_isinstance T.z_tuple (m_var 1) (by decide +kernel)))) (pw_or1 (m_pcmp (op_neP hr.units) om_ne (m_callB call_len_seq cm_len T.z_len (m_cons (m_var 1) m_nil)) (m_callB call_len_seq cm_len T.z_len (m_cons (m_var 0) m_nil)))))) (m_sOne (m_raise tk PySem.F.excBase_ValueError T.x_InvalidWishes T.g_InvalidWishes T.k_InvalidWishes (raises_own T.s_InvalidWishes T.t_InvalidWishes))) m_sNil)
        (m_sOne (m_ifS (m_not (m_truth (m_callB (cr_all rfl) cm_all T.z_all (m_cons (m_frz (m_lc (t := .name 2) (own := [("wish", 2)]) nd (m_seqI (m_var 1)) (show blkC ["times", "wishes", "wish"] (defScope s_require_wishes) _ _ = true from by decide +kernel) (fun _ _ _ _ _ => m_gname 2 (nopin rfl) nd) (fun _ _ _ _ _ => m_yes) (fun _ _ _ _ _ => m_orV (m_cmp op_isA om_is (m_var 2) m_non) (pe_one (m_call (is := []) (np := 1) (m := .pure) (ok_is_range T) (hr.mono (by decide)) T.g_is_range T.F_is_range.kp T.b_is_range takes0 (m_ar0 (m_cons (m_var 2) m_nil)) (fun ρ ds ρ1 h => by have q := (len_cons (fun _ _ _ h => len_nil h)) ρ ds ρ1 h; show 0 + ds.length = 1; omega)))) (by simp only [List.map_cons, List.map_nil]; intro i hi; simp only [List.mem_cons, List.not_mem_nil, or_false] at hi; (first | (rcases hi with rfl) | skip) <;> exact nopin rfl))) m_nil)))) (m_sOne (m_raise tk PySem.F.excBase_ValueError T.x_InvalidWishes T.g_InvalidWishes T.k_InvalidWishes (raises_own T.s_InvalidWishes T.t_InvalidWishes))) m_sNil)))
theorem ok_best_bases (T : Top K mg) : FnOk P w K mg base (L2.CX P w) 1 T.a_best_bases T.d_best_bases ["ranges", "bases", "one", "following"] (spM K mg 4 0 .pure F_best_bases) :=
  def_ok (N := ["ranges", "bases", "one", "following", "table", "low", "high", "cheap", "later", "base", "changed", "price", "row"]) (np := 4) (no := 0) (k := 0) (m := .pure) (body := M_best_bases) T.F_best_bases sc_best_bases rfl (by decide) fun cdv A outer s H E F as has hr => by
    obtain rfl := List.length_eq_zero_iff.mp has
    have nd := sc_best_bases.nd
    have tk : Takes (cxOf (L2.CX P w) P w K mg base ["ranges", "bases", "one", "following", "table", "low", "high", "cheap", "later", "base", "changed", "price", "row"] "best_bases" (defScope s_best_bases) T.a_best_bases cdv A outer s H E) (fun cls d _ H' => E cls d H') := takes_of rfl rfl rfl rfl
    have pso : PassesOwn (model P w) (A.deeper (PyProof.Rows.envOfC "best_bases" (defScope s_best_bases) s.heap.objs.size T.a_best_bases cdv)) (PyProof.Rows.envOfC "best_bases" (defScope s_best_bases) s.heap.objs.size T.a_best_bases cdv) (cxOf (L2.CX P w) P w K mg base ["ranges", "bases", "one", "following", "table", "low", "high", "cheap", "later", "base", "changed", "price", "row"] "best_bases" (defScope s_best_bases) T.a_best_bases cdv A outer s H E).xe := passes_of rfl
    exact m_sCons (m_set .pure 4 (nopin rfl) nd (m_frzD (m_disp1 m_int (m_tup (m_cons m_int (m_cons (m_tup m_nil) m_nil))))))
        (m_sCons (m_for (t := .tup [5, 6]) pso (m_seqI (m_var 0)) (m_gtup rfl (m_gcons (m_gname 5 (nopin rfl) nd) (m_gcons (m_gname 6 (nopin rfl) nd) m_gnil))) (m_sCons (m_set .pure 7 (nopin rfl) nd (m_callB (cr_minL rfl hr.units) cm_minL T.z_min (m_cons (m_frz (m_lc (t := .name 9) (own := [("base", 9)]) nd (m_keys (m_var 4)) (show blkC ["ranges", "bases", "one", "following", "table", "low", "high", "cheap", "later", "base", "changed", "price", "row"] (defScope s_best_bases) _ _ = true from by decide +kernel) (fun _ _ _ _ _ => m_gname 9 (nopin rfl) nd) (fun _ _ _ _ _ => m_yes) (fun _ _ _ _ _ => m_dget hr.units (m_var 4) (m_var 9)) (by simp only [List.map_cons, List.map_nil]; intro i hi; simp only [List.mem_cons, List.not_mem_nil, or_false] at hi; (first | (rcases hi with rfl) | skip) <;> exact nopin rfl))) m_nil)))
        (m_sCons (m_set .fresh 8 (nopin rfl) nd m_dnewK)
        (m_sCons (m_for (t := .name 9) pso (m_seqI (m_var 1)) (m_gname 9 (nopin rfl) nd) (m_sCons (m_set .pure 10 (nopin rfl) nd (m_tup (m_cons (m_op op_addA om_add (m_ix (m_var 7) m_int) (m_var 3)) (m_cons (m_ix (m_var 7) m_int) m_nil))))
        (m_sCons (m_asg (t := .tup [11, 12]) (m_callB (cr_minT rfl hr.units) cm_minT T.z_min (m_cons (m_get2 hr.units (m_var 4) (m_var 9) (m_var 10) ⟨rfl, rfl, rfl, rfl⟩) (m_cons (m_var 10) m_nil))) (m_gtup rfl (m_gcons (m_gname 11 (nopin rfl) nd) (m_gcons (m_gname 12 (nopin rfl) nd) m_gnil))))
        (m_sOne (m_dput (i := 8) hr.units ⟨rfl, by first | exact Or.inl rfl | exact Or.inr (Or.inl rfl) | exact Or.inr (Or.inr rfl), by decide, by decide⟩ (m_var 9) (m_tup (m_cons (m_op op_addA om_add (m_var 11) (m_if (m_pchain op_le op_le cb_cmp cb_cmp bb_cmp bb_cmp (m_var 5) (m_var 9) (m_var 6)) m_int (m_var 2))) (m_cons (m_op op_addA om_add (m_var 12) (m_tup (m_cons (m_var 9) m_nil))) m_nil))))))))
        (m_sOne (m_set .pure 4 (nopin rfl) nd (m_varZD (i := 8) ⟨rfl, by first | exact Or.inl rfl | exact Or.inr (Or.inl rfl) | exact Or.inr (Or.inr rfl), by decide, by decide⟩ (nopin rfl))))))))
        (m_sOne (m_ret (m_callB (cr_minL rfl hr.units) cm_minL T.z_min (m_cons (m_frz (m_lc (t := .name 9) (own := [("base", 9)]) nd (m_keys (m_var 4)) (show blkC ["ranges", "bases", "one", "following", "table", "low", "high", "cheap", "later", "base", "changed", "price", "row"] (defScope s_best_bases) _ _ = true from by decide +kernel) (fun _ _ _ _ _ => m_gname 9 (nopin rfl) nd) (fun _ _ _ _ _ => m_yes) (fun _ _ _ _ _ => m_dget hr.units (m_var 4) (m_var 9)) (by simp only [List.map_cons, List.map_nil]; intro i hi; simp only [List.mem_cons, List.not_mem_nil, or_false] at hi; (first | (rcases hi with rfl) | skip) <;> exact nopin rfl))) m_nil)))))
theorem ok_best_of (T : Top K mg) : FnOk P w K mg base (L2.CX P w) 2 T.a_best_of T.d_best_of ["times", "wishes"] (spM K mg 2 0 .pure F_best_of) :=
  def_ok (N := ["times", "wishes", "ranges", "bases", "time", "wish", "number", "row", "first", "last", "low", "high", "base"]) (np := 2) (no := 0) (k := 1) (m := .pure) (body := M_best_of) T.F_best_of sc_best_of rfl (by decide) fun cdv A outer s H E F as has hr => by
    obtain rfl := List.length_eq_zero_iff.mp has
    have nd := sc_best_of.nd
    have tk : Takes (cxOf (L2.CX P w) P w K mg base ["times", "wishes", "ranges", "bases", "time", "wish", "number", "row", "first", "last", "low", "high", "base"] "best_of" (defScope s_best_of) T.a_best_of cdv A outer s H E) (fun cls d _ H' => E cls d H') := takes_of rfl rfl rfl rfl
    have pso : PassesOwn (model P w) (A.deeper (PyProof.Rows.envOfC "best_of" (defScope s_best_of) s.heap.objs.size T.a_best_of cdv)) (PyProof.Rows.envOfC "best_of" (defScope s_best_of) s.heap.objs.size T.a_best_of cdv) (cxOf (L2.CX P w) P w K mg base ["times", "wishes", "ranges", "bases", "time", "wish", "number", "row", "first", "last", "low", "high", "base"] "best_of" (defScope s_best_of) T.a_best_of cdv A outer s H E).xe := passes_of rfl
    exact m_sCons (m_par2 2 3 (nopin rfl) (nopin rfl) nd (m_consM (m_lst m_nil) (m_consM (m_lst (m_cons m_int m_nil)) m_nilM)))
        (m_sCons (m_for (t := .tup [4, 5]) pso (m_zipK T.z_zip (m_cons (m_var 0) (m_cons (m_var 1) m_nil))) (m_gtup rfl (m_gcons (m_gname 4 (nopin rfl) nd) (m_gcons (m_gname 5 (nopin rfl) nd) m_gnil))) (m_sCons (m_asg (t := .tup [8, 9]) (m_if (m_pcmp op_isA om_is (m_var 5) m_non) (m_tup (m_cons (m_op op_sub om_sub m_int (m_glob T.c_LARGEST)) (m_cons (m_glob T.c_LARGEST) m_nil))) (m_var 5)) (m_gtup rfl (m_gcons (m_gname 8 (nopin rfl) nd) (m_gcons (m_gname 9 (nopin rfl) nd) m_gnil))))
        (m_sCons (m_par2 10 11 (nopin rfl) (nopin rfl) nd (m_consM (m_op op_sub om_sub (m_var 8) (m_var 4)) (m_consM (m_op op_sub om_sub (m_var 9) (m_var 4)) m_nilM)))
        (m_sCons (m_expr (m_append (i := 2) ⟨rfl, by first | exact Or.inl rfl | exact Or.inr (Or.inl rfl) | exact Or.inr (Or.inr rfl), by decide, by decide⟩ (m_tup (m_cons (m_var 10) (m_cons (m_var 11) m_nil)))))
        (m_sOne (m_ifS (m_pcmp op_isNotA om_is (m_var 5) m_non) (m_sOne (m_ext (i := 3) ⟨rfl, by first | exact Or.inl rfl | exact Or.inr (Or.inl rfl) | exact Or.inr (Or.inr rfl), by decide, by decide⟩ nd (m_frz (m_lst (m_cons (m_var 10) (m_cons (m_var 11) m_nil)))))) m_sNil))))))
        (m_sCons (m_asg (t := .tup [6, 7]) (m_call (is := []) (np := 4) (m := .pure) (ok_best_bases T) (hr.mono (by decide)) T.g_best_bases T.F_best_bases.kp T.b_best_bases tk (m_ar0 (m_cons (m_varZ (i := 2) ⟨rfl, by first | exact Or.inl rfl | exact Or.inr (Or.inl rfl) | exact Or.inr (Or.inr rfl), by decide, by decide⟩ (nopin rfl)) (m_cons (m_frz (m_sortSet T.z_sorted T.z_set (m_varZ (i := 3) ⟨rfl, by first | exact Or.inl rfl | exact Or.inr (Or.inl rfl) | exact Or.inr (Or.inr rfl), by decide, by decide⟩ (nopin rfl)))) (m_cons m_int (m_cons m_int m_nil))))) (fun ρ ds ρ1 h => by have q := (len_cons (len_cons (len_cons (len_cons (fun _ _ _ h => len_nil h))))) ρ ds ρ1 h; show 0 + ds.length = 4; omega)) (m_gtup rfl (m_gcons (m_gname 6 (nopin rfl) nd) (m_gcons (m_gname 7 (nopin rfl) nd) m_gnil))))
        (m_sOne (m_ret (m_tup (m_cons (m_var 6) (m_cons (m_frz (m_lc (t := .nst [10, 11] [12]) (own := [("low", 10), ("high", 11), ("base", 12)]) nd (m_zipK T.z_zip (m_cons (m_var 2) (m_cons (m_var 7) m_nil))) (show blkC ["times", "wishes", "ranges", "bases", "time", "wish", "number", "row", "first", "last", "low", "high", "base"] (defScope s_best_of) _ _ = true from by decide +kernel) (fun _ _ _ _ _ => m_gnst (is := [10, 11]) (js := [12]) rfl (m_gtup rfl (m_gcons (m_gname 10 (nopin rfl) nd) (m_gcons (m_gname 11 (nopin rfl) nd) m_gnil))) (m_gcons (m_gname 12 (nopin rfl) nd) m_gnil)) (fun _ _ _ _ _ => m_yes) (fun _ _ _ _ _ => m_callB (call_max2 rfl) cm_max2 T.z_max (m_cons (m_var 10) (m_cons (m_callB (call_min2 rfl) cm_min2 T.z_min (m_cons (m_var 11) (m_cons (m_var 12) m_nil))) m_nil))) (by simp only [List.map_cons, List.map_nil]; intro i hi; simp only [List.mem_cons, List.not_mem_nil, or_false] at hi; (first | (rcases hi with rfl | rfl | rfl) | skip) <;> exact nopin rfl))) m_nil)))))))
theorem ok_fewest_wish (T : Top K mg) : FnOk P w K mg base (L2.CX P w) 5 T.a_fewest_wish T.d_fewest_wish ["times", "wishes"] (spM K mg 2 0 .pure F_fewest_wish) :=
  def_ok (N := ["times", "wishes"]) (np := 2) (no := 0) (k := 4) (m := .pure) (body := M_fewest_wish) T.F_fewest_wish sc_fewest_wish rfl (by decide) fun cdv A outer s H E F as has hr => by
    obtain rfl := List.length_eq_zero_iff.mp has
    have nd := sc_fewest_wish.nd
    have tk : Takes (cxOf (L2.CX P w) P w K mg base ["times", "wishes"] "fewest_wish" (defScope s_fewest_wish) T.a_fewest_wish cdv A outer s H E) (fun cls d _ H' => E cls d H') := takes_of rfl rfl rfl rfl
    have pso : PassesOwn (model P w) (A.deeper (PyProof.Rows.envOfC "fewest_wish" (defScope s_fewest_wish) s.heap.objs.size T.a_fewest_wish cdv)) (PyProof.Rows.envOfC "fewest_wish" (defScope s_fewest_wish) s.heap.objs.size T.a_fewest_wish cdv) (cxOf (L2.CX P w) P w K mg base ["times", "wishes"] "fewest_wish" (defScope s_fewest_wish) T.a_fewest_wish cdv A outer s H E).xe := passes_of rfl
    exact m_sCons (m_expr (m_call (is := []) (np := 2) (m := .pure) (ok_require_wishes T) (hr.mono (by decide)) T.g_require_wishes T.F_require_wishes.kp T.b_require_wishes tk (m_ar0 (m_cons (m_var 0) (m_cons (m_var 1) m_nil))) (fun ρ ds ρ1 h => by have q := (len_cons (len_cons (fun _ _ _ h => len_nil h))) ρ ds ρ1 h; show 0 + ds.length = 2; omega)))
        (m_sOne (m_ret (m_ix (m_call (is := []) (np := 2) (m := .pure) (ok_best_of T) (hr.mono (by decide)) T.g_best_of T.F_best_of.kp T.b_best_of tk (m_ar0 (m_cons (m_var 0) (m_cons (m_var 1) m_nil))) (fun ρ ds ρ1 h => by have q := (len_cons (len_cons (fun _ _ _ h => len_nil h))) ρ ds ρ1 h; show 0 + ds.length = 2; omega)) m_int)))
theorem ok_best_times (T : Top K mg) : FnOk P w K mg base (L2.CX P w) 5 T.a_best_times T.d_best_times ["times", "wishes"] (spM K mg 2 0 .pure F_best_times) :=
  def_ok (N := ["times", "wishes", "time", "shift"]) (np := 2) (no := 0) (k := 4) (m := .pure) (body := M_best_times) T.F_best_times sc_best_times rfl (by decide) fun cdv A outer s H E F as has hr => by
    obtain rfl := List.length_eq_zero_iff.mp has
    have nd := sc_best_times.nd
    have tk : Takes (cxOf (L2.CX P w) P w K mg base ["times", "wishes", "time", "shift"] "best_times" (defScope s_best_times) T.a_best_times cdv A outer s H E) (fun cls d _ H' => E cls d H') := takes_of rfl rfl rfl rfl
    have pso : PassesOwn (model P w) (A.deeper (PyProof.Rows.envOfC "best_times" (defScope s_best_times) s.heap.objs.size T.a_best_times cdv)) (PyProof.Rows.envOfC "best_times" (defScope s_best_times) s.heap.objs.size T.a_best_times cdv) (cxOf (L2.CX P w) P w K mg base ["times", "wishes", "time", "shift"] "best_times" (defScope s_best_times) T.a_best_times cdv A outer s H E).xe := passes_of rfl
    exact m_sCons (m_expr (m_call (is := []) (np := 2) (m := .pure) (ok_require_wishes T) (hr.mono (by decide)) T.g_require_wishes T.F_require_wishes.kp T.b_require_wishes tk (m_ar0 (m_cons (m_var 0) (m_cons (m_var 1) m_nil))) (fun ρ ds ρ1 h => by have q := (len_cons (len_cons (fun _ _ _ h => len_nil h))) ρ ds ρ1 h; show 0 + ds.length = 2; omega)))
        (m_sOne (m_ret (m_callT call_tuple_of cm_tuple T.z_tuple (m_cons (m_frz (m_lc (t := .tup [2, 3]) (own := [("time", 2), ("shift", 3)]) nd (m_zipK T.z_zip (m_cons (m_var 0) (m_cons (m_ix (m_call (is := []) (np := 2) (m := .pure) (ok_best_of T) (hr.mono (by decide)) T.g_best_of T.F_best_of.kp T.b_best_of tk (m_ar0 (m_cons (m_var 0) (m_cons (m_var 1) m_nil))) (fun ρ ds ρ1 h => by have q := (len_cons (len_cons (fun _ _ _ h => len_nil h))) ρ ds ρ1 h; show 0 + ds.length = 2; omega)) m_int) m_nil))) (show blkC ["times", "wishes", "time", "shift"] (defScope s_best_times) _ _ = true from by decide +kernel) (fun _ _ _ _ _ => m_gtup rfl (m_gcons (m_gname 2 (nopin rfl) nd) (m_gcons (m_gname 3 (nopin rfl) nd) m_gnil))) (fun _ _ _ _ _ => m_yes) (fun _ _ _ _ _ => m_op op_addA om_add (m_var 2) (m_var 3)) (by simp only [List.map_cons, List.map_nil]; intro i hi; simp only [List.mem_cons, List.not_mem_nil, or_false] at hi; (first | (rcases hi with rfl | rfl) | skip) <;> exact nopin rfl))) m_nil))))
theorem ok__law_cuts (T : Top K mg) : FnOk P w K mg base (L2.CX P w) 1 T.a__law_cuts T.d__law_cuts ["many"] (spM K mg 1 0 .pure F__law_cuts) :=
  def_ok (N := ["many", "found", "place", "some"]) (np := 1) (no := 0) (k := 0) (m := .pure) (body := M__law_cuts) T.F__law_cuts sc__law_cuts rfl (by decide) fun cdv A outer s H E F as has hr => by
    obtain rfl := List.length_eq_zero_iff.mp has
    have nd := sc__law_cuts.nd
    have tk : Takes (cxOf (L2.CX P w) P w K mg base ["many", "found", "place", "some"] "_law_cuts" (defScope s__law_cuts) T.a__law_cuts cdv A outer s H E) (fun cls d _ H' => E cls d H') := takes_of rfl rfl rfl rfl
    have pso : PassesOwn (model P w) (A.deeper (PyProof.Rows.envOfC "_law_cuts" (defScope s__law_cuts) s.heap.objs.size T.a__law_cuts cdv)) (PyProof.Rows.envOfC "_law_cuts" (defScope s__law_cuts) s.heap.objs.size T.a__law_cuts cdv) (cxOf (L2.CX P w) P w K mg base ["many", "found", "place", "some"] "_law_cuts" (defScope s__law_cuts) T.a__law_cuts cdv A outer s H E).xe := passes_of rfl
    exact m_sCons (m_set .pure 1 (nopin rfl) nd (m_frz (m_lst (m_cons (m_tup m_nil) m_nil))))
        (m_sCons (m_for (t := .name 2) pso (m_rng1 T.z_range (m_cons (m_var 0) m_nil)) (m_gname 2 (nopin rfl) nd) (m_sOne (m_set .pure 1 (nopin rfl) nd (m_op op_addA om_add (m_var 1) (m_frz (m_lc (t := .name 3) (own := [("some", 3)]) nd (m_seqI (m_var 1)) (show blkC ["many", "found", "place", "some"] (defScope s__law_cuts) _ _ = true from by decide +kernel) (fun _ _ _ _ _ => m_gname 3 (nopin rfl) nd) (fun _ _ _ _ _ => m_yes) (fun _ _ _ _ _ => m_op op_addA om_add (m_var 3) (m_tup (m_cons (m_var 2) m_nil))) (by simp only [List.map_cons, List.map_nil]; intro i hi; simp only [List.mem_cons, List.not_mem_nil, or_false] at hi; (first | (rcases hi with rfl) | skip) <;> exact nopin rfl)))))))
        (m_sOne (m_ret (m_var 1))))
theorem ok__law_good (T : Top K mg) : FnOk P w K mg base (L2.CX P w) 1 T.a__law_good T.d__law_good ["shift", "time", "wish"] (spM K mg 3 0 .pure F__law_good) :=
  def_ok (N := ["shift", "time", "wish"]) (np := 3) (no := 0) (k := 0) (m := .pure) (body := M__law_good) T.F__law_good sc__law_good rfl (by decide) fun cdv A outer s H E F as has hr => by
    obtain rfl := List.length_eq_zero_iff.mp has
    have nd := sc__law_good.nd
    have tk : Takes (cxOf (L2.CX P w) P w K mg base ["shift", "time", "wish"] "_law_good" (defScope s__law_good) T.a__law_good cdv A outer s H E) (fun cls d _ H' => E cls d H') := takes_of rfl rfl rfl rfl
    have pso : PassesOwn (model P w) (A.deeper (PyProof.Rows.envOfC "_law_good" (defScope s__law_good) s.heap.objs.size T.a__law_good cdv)) (PyProof.Rows.envOfC "_law_good" (defScope s__law_good) s.heap.objs.size T.a__law_good cdv) (cxOf (L2.CX P w) P w K mg base ["shift", "time", "wish"] "_law_good" (defScope s__law_good) T.a__law_good cdv A outer s H E).xe := passes_of rfl
    exact m_sOne (m_ret (m_orV (m_cmp op_isA om_is (m_var 2) m_non) (pe_one (m_chain op_le op_le cb_cmp cb_cmp bb_cmp bb_cmp (m_ix (m_var 2) m_int) (m_op op_addA om_add (m_var 1) (m_var 0)) (m_ix (m_var 2) m_int)))))
theorem ok__law_common (T : Top K mg) : FnOk P w K mg base (L2.CX P w) 2 T.a__law_common T.d__law_common ["times", "wishes", "low", "high", "is_first"] (spM K mg 5 0 .pure F__law_common) :=
  def_ok (N := ["times", "wishes", "low", "high", "is_first", "some", "counts_so", "shift", "place"]) (np := 5) (no := 0) (k := 1) (m := .pure) (body := M__law_common) T.F__law_common sc__law_common rfl (by decide) fun cdv A outer s H E F as has hr => by
    obtain rfl := List.length_eq_zero_iff.mp has
    have nd := sc__law_common.nd
    have tk : Takes (cxOf (L2.CX P w) P w K mg base ["times", "wishes", "low", "high", "is_first", "some", "counts_so", "shift", "place"] "_law_common" (defScope s__law_common) T.a__law_common cdv A outer s H E) (fun cls d _ H' => E cls d H') := takes_of rfl rfl rfl rfl
    have pso : PassesOwn (model P w) (A.deeper (PyProof.Rows.envOfC "_law_common" (defScope s__law_common) s.heap.objs.size T.a__law_common cdv)) (PyProof.Rows.envOfC "_law_common" (defScope s__law_common) s.heap.objs.size T.a__law_common cdv) (cxOf (L2.CX P w) P w K mg base ["times", "wishes", "low", "high", "is_first", "some", "counts_so", "shift", "place"] "_law_common" (defScope s__law_common) T.a__law_common cdv A outer s H E).xe := passes_of rfl
    exact m_sCons (m_set .fresh 5 (nopin rfl) nd (m_lst (m_cons m_int m_nil)))
        (m_sCons (m_ifS (m_not (m_truth (m_var 4))) (m_sOne (m_for (t := .name 8) pso (m_rng2 T.z_range (m_cons (m_var 2) (m_cons (m_var 3) m_nil))) (m_gname 8 (nopin rfl) nd) (m_sOne (m_ifS (m_pcmp op_isNotA om_is (m_ix (m_var 1) (m_var 8)) m_non) (m_sOne (m_expr (m_append (i := 5) ⟨rfl, by first | exact Or.inl rfl | exact Or.inr (Or.inl rfl) | exact Or.inr (Or.inr rfl), by decide, by decide⟩ (m_op op_sub om_sub (m_ix (m_ix (m_var 1) (m_var 8)) m_int) (m_ix (m_var 0) (m_var 8)))))) m_sNil)))) m_sNil)
        (m_sCons (m_set .fresh 6 (nopin rfl) nd (m_lst m_nil))
        (m_sCons (m_for (t := .name 7) pso (m_seqI (m_varZ (i := 5) ⟨rfl, by first | exact Or.inl rfl | exact Or.inr (Or.inl rfl) | exact Or.inr (Or.inr rfl), by decide, by decide⟩ (nopin rfl))) (m_gname 7 (nopin rfl) nd) (m_sOne (m_expr (m_append (i := 6) ⟨rfl, by first | exact Or.inl rfl | exact Or.inr (Or.inl rfl) | exact Or.inr (Or.inr rfl), by decide, by decide⟩ (m_callB call_len_seq cm_len T.z_len (m_cons (m_frz (m_lc (t := .name 8) (own := [("place", 8)]) nd (m_rng2 T.z_range (m_cons (m_var 2) (m_cons (m_var 3) m_nil))) (show blkC ["times", "wishes", "low", "high", "is_first", "some", "counts_so", "shift", "place"] (defScope s__law_common) _ _ = true from by decide +kernel) (fun _ _ _ _ _ => m_gname 8 (nopin rfl) nd) (fun _ _ _ _ _ => pts_one (m_truth (m_call (is := []) (np := 3) (m := .pure) (ok__law_good T) (hr.mono (by decide)) T.g__law_good T.F__law_good.kp T.b__law_good takes0 (m_ar0 (m_cons (m_var 7) (m_cons (m_ix (m_var 0) (m_var 8)) (m_cons (m_ix (m_var 1) (m_var 8)) m_nil)))) (fun ρ ds ρ1 h => by have q := (len_cons (len_cons (len_cons (fun _ _ _ h => len_nil h)))) ρ ds ρ1 h; show 0 + ds.length = 3; omega)))) (fun _ _ _ _ _ => m_var 8) (by simp only [List.map_cons, List.map_nil]; intro i hi; simp only [List.mem_cons, List.not_mem_nil, or_false] at hi; (first | (rcases hi with rfl) | skip) <;> exact nopin rfl))) m_nil))))))
        (m_sOne (m_ret (m_callB (cr_max rfl) cm_max T.z_max (m_cons (m_varZ (i := 6) ⟨rfl, by first | exact Or.inl rfl | exact Or.inr (Or.inl rfl) | exact Or.inr (Or.inr rfl), by decide, by decide⟩ (nopin rfl)) m_nil)))))))
theorem ok__law_fewest (T : Top K mg) : FnOk P w K mg base (L2.CX P w) 3 T.a__law_fewest T.d__law_fewest ["times", "wishes"] (spM K mg 2 0 .pure F__law_fewest) :=
  def_ok (N := ["times", "wishes", "best", "cuts", "ends", "number", "at", "low"]) (np := 2) (no := 0) (k := 2) (m := .pure) (body := M__law_fewest) T.F__law_fewest sc__law_fewest rfl (by decide) fun cdv A outer s H E F as has hr => by
    obtain rfl := List.length_eq_zero_iff.mp has
    have nd := sc__law_fewest.nd
    have tk : Takes (cxOf (L2.CX P w) P w K mg base ["times", "wishes", "best", "cuts", "ends", "number", "at", "low"] "_law_fewest" (defScope s__law_fewest) T.a__law_fewest cdv A outer s H E) (fun cls d _ H' => E cls d H') := takes_of rfl rfl rfl rfl
    have pso : PassesOwn (model P w) (A.deeper (PyProof.Rows.envOfC "_law_fewest" (defScope s__law_fewest) s.heap.objs.size T.a__law_fewest cdv)) (PyProof.Rows.envOfC "_law_fewest" (defScope s__law_fewest) s.heap.objs.size T.a__law_fewest cdv) (cxOf (L2.CX P w) P w K mg base ["times", "wishes", "best", "cuts", "ends", "number", "at", "low"] "_law_fewest" (defScope s__law_fewest) T.a__law_fewest cdv A outer s H E).xe := passes_of rfl
    exact m_sCons (m_set .pure 2 (nopin rfl) nd m_non)
        (m_sCons (m_for (t := .name 3) pso (m_seqI (m_call (is := []) (np := 1) (m := .pure) (ok__law_cuts T) (hr.mono (by decide)) T.g__law_cuts T.F__law_cuts.kp T.b__law_cuts tk (m_ar0 (m_cons (m_callB call_len_seq cm_len T.z_len (m_cons (m_var 0) m_nil)) m_nil)) (fun ρ ds ρ1 h => by have q := (len_cons (fun _ _ _ h => len_nil h)) ρ ds ρ1 h; show 0 + ds.length = 1; omega))) (m_gname 3 (nopin rfl) nd) (m_sCons (m_set .pure 4 (nopin rfl) nd (m_op op_addA om_add (m_op op_addA om_add (m_frz (m_lst (m_cons m_int m_nil))) (m_frz (m_callT call_list_of cm_list T.z_list (m_cons (m_var 3) m_nil)))) (m_frz (m_lst (m_cons (m_callB call_len_seq cm_len T.z_len (m_cons (m_var 0) m_nil)) m_nil)))))
        (m_sCons (m_set .pure 5 (nopin rfl) nd (m_op op_addA om_add (m_callB call_len_seq cm_len T.z_len (m_cons (m_var 3) m_nil)) (m_callB call_len_seq cm_len T.z_len (m_cons (m_var 0) m_nil))))
        (m_sCons (m_for (t := .tup [6, 7]) pso (m_enum T.z_enumerate (m_cons (m_sl (m_var 4) m_pnone (m_psome (m_un un_neg um_neg m_int))) m_nil)) (m_gtup rfl (m_gcons (m_gname 6 (nopin rfl) nd) (m_gcons (m_gname 7 (nopin rfl) nd) m_gnil))) (m_sOne (m_set .pure 5 (nopin rfl) nd (m_op op_sub om_sub (m_var 5) (m_call (is := []) (np := 5) (m := .pure) (ok__law_common T) (hr.mono (by decide)) T.g__law_common T.F__law_common.kp T.b__law_common tk (m_ar0 (m_cons (m_var 0) (m_cons (m_var 1) (m_cons (m_var 7) (m_cons (m_ix (m_var 4) (m_op op_addA om_add (m_var 6) m_int)) (m_cons (m_cmp (op_eqP hr.units) om_eq (m_var 6) m_int) m_nil)))))) (fun ρ ds ρ1 h => by have q := (len_cons (len_cons (len_cons (len_cons (len_cons (fun _ _ _ h => len_nil h)))))) ρ ds ρ1 h; show 0 + ds.length = 5; omega))))))
        (m_sOne (m_set .pure 2 (nopin rfl) nd (m_if (PW.pt (m_or (m_pcmp op_isA om_is (m_var 2) m_non) (pw_or1 (m_pcmp op_lt om_cmp (m_var 5) (m_var 2))))) (m_var 5) (m_var 2))))))))
        (m_sOne (m_ret (m_var 2))))
theorem ok_require_rows (T : Top K mg) : FnOk P w K mg base (L2.CX P w) 4 T.a_require_rows T.d_require_rows ["first", "second"] (spM K mg 2 0 .pure F_require_rows) :=
  def_ok (N := ["first", "second"]) (np := 2) (no := 0) (k := 3) (m := .pure) (body := M_require_rows) T.F_require_rows sc_require_rows rfl (by decide) fun cdv A outer s H E F as has hr => by
    obtain rfl := List.length_eq_zero_iff.mp has
    have nd := sc_require_rows.nd
    have tk : Takes (cxOf (L2.CX P w) P w K mg base ["first", "second"] "require_rows" (defScope s_require_rows) T.a_require_rows cdv A outer s H E) (fun cls d _ H' => E cls d H') := takes_of rfl rfl rfl rfl
    have pso : PassesOwn (model P w) (A.deeper (PyProof.Rows.envOfC "require_rows" (defScope s_require_rows) s.heap.objs.size T.a_require_rows cdv)) (PyProof.Rows.envOfC "require_rows" (defScope s_require_rows) s.heap.objs.size T.a_require_rows cdv) (cxOf (L2.CX P w) P w K mg base ["first", "second"] "require_rows" (defScope s_require_rows) T.a_require_rows cdv A outer s H E).xe := passes_of rfl
    exact m_sCons (m_expr (m_call (is := []) (np := 1) (m := .pure) (ok_require_times T) (hr.mono (by decide)) T.g_require_times T.F_require_times.kp T.b_require_times tk (m_ar0 (m_cons (m_var 0) m_nil)) (fun ρ ds ρ1 h => by have q := (len_cons (fun _ _ _ h => len_nil h)) ρ ds ρ1 h; show 0 + ds.length = 1; omega)))
        (m_sOne (m_ifS (PW.pt (m_or (m_not (m_truth (m_call (is := []) (np := 1) (m := .pure) (ok_is_times T) (hr.mono (by decide)) T.g_is_times T.F_is_times.kp T.b_is_times tk (m_ar0 (m_cons (m_var 1) m_nil)) (fun ρ ds ρ1 h => by have q := (len_cons (fun _ _ _ h => len_nil h)) ρ ds ρ1 h; show 0 + ds.length = 1; omega)))) (pw_or1 (m_pcmp (op_neP hr.units) om_ne (m_callB call_len_seq cm_len T.z_len (m_cons (m_var 1) m_nil)) (m_callB call_len_seq cm_len T.z_len (m_cons (m_var 0) m_nil)))))) (m_sOne (m_raise tk PySem.F.excBase_ValueError T.x_InvalidTimes T.g_InvalidTimes T.k_InvalidTimes (raises_own T.s_InvalidTimes T.t_InvalidTimes))) m_sNil))
theorem ok_steps_of (T : Top K mg) : FnOk P w K mg base (L2.CX P w) 1 T.a_steps_of T.d_steps_of ["moved"] (spM K mg 1 0 .fresh F_steps_of) :=
  def_ok (N := ["moved", "old", "new"]) (np := 1) (no := 0) (k := 0) (m := .fresh) (body := M_steps_of) T.F_steps_of sc_steps_of rfl (by decide) fun cdv A outer s H E F as has hr => by
    obtain rfl := List.length_eq_zero_iff.mp has
    have nd := sc_steps_of.nd
    have tk : Takes (cxOf (L2.CX P w) P w K mg base ["moved", "old", "new"] "steps_of" (defScope s_steps_of) T.a_steps_of cdv A outer s H E) (fun cls d _ H' => E cls d H') := takes_of rfl rfl rfl rfl
    have pso : PassesOwn (model P w) (A.deeper (PyProof.Rows.envOfC "steps_of" (defScope s_steps_of) s.heap.objs.size T.a_steps_of cdv)) (PyProof.Rows.envOfC "steps_of" (defScope s_steps_of) s.heap.objs.size T.a_steps_of cdv) (cxOf (L2.CX P w) P w K mg base ["moved", "old", "new"] "steps_of" (defScope s_steps_of) T.a_steps_of cdv A outer s H E).xe := passes_of rfl
    exact m_sOne (m_retF (m_lc (t := .tup [1, 2]) (own := [("old", 1), ("new", 2)]) nd (m_zipK T.z_zip (m_cons (m_op op_addA om_add (m_frz (m_lst (m_cons m_int m_nil))) (m_var 0)) (m_cons (m_var 0) m_nil))) (show blkC ["moved", "old", "new"] (defScope s_steps_of) _ _ = true from by decide +kernel) (fun _ _ _ _ _ => m_gtup rfl (m_gcons (m_gname 1 (nopin rfl) nd) (m_gcons (m_gname 2 (nopin rfl) nd) m_gnil))) (fun _ _ _ _ _ => m_yes) (fun _ _ _ _ _ => m_op op_sub om_sub (m_var 2) (m_var 1)) (by simp only [List.map_cons, List.map_nil]; intro i hi; simp only [List.mem_cons, List.not_mem_nil, or_false] at hi; (first | (rcases hi with rfl | rfl) | skip) <;> exact nopin rfl)))
theorem ok_breaks_of (T : Top K mg) : FnOk P w K mg base (L2.CX P w) 2 T.a_breaks_of T.d_breaks_of ["moved"] (spM K mg 1 0 .fresh F_breaks_of) :=
  def_ok (N := ["moved", "place", "step"]) (np := 1) (no := 0) (k := 1) (m := .fresh) (body := M_breaks_of) T.F_breaks_of sc_breaks_of rfl (by decide) fun cdv A outer s H E F as has hr => by
    obtain rfl := List.length_eq_zero_iff.mp has
    have nd := sc_breaks_of.nd
    have tk : Takes (cxOf (L2.CX P w) P w K mg base ["moved", "place", "step"] "breaks_of" (defScope s_breaks_of) T.a_breaks_of cdv A outer s H E) (fun cls d _ H' => E cls d H') := takes_of rfl rfl rfl rfl
    have pso : PassesOwn (model P w) (A.deeper (PyProof.Rows.envOfC "breaks_of" (defScope s_breaks_of) s.heap.objs.size T.a_breaks_of cdv)) (PyProof.Rows.envOfC "breaks_of" (defScope s_breaks_of) s.heap.objs.size T.a_breaks_of cdv) (cxOf (L2.CX P w) P w K mg base ["moved", "place", "step"] "breaks_of" (defScope s_breaks_of) T.a_breaks_of cdv A outer s H E).xe := passes_of rfl
    exact m_sOne (m_retF (m_lc (t := .tup [1, 2]) (own := [("place", 1), ("step", 2)]) nd (m_enum T.z_enumerate (m_cons (m_frz (m_call (is := []) (np := 1) (m := .fresh) (ok_steps_of T) (hr.mono (by decide)) T.g_steps_of T.F_steps_of.kp T.b_steps_of tk (m_ar0 (m_cons (m_var 0) m_nil)) (fun ρ ds ρ1 h => by have q := (len_cons (fun _ _ _ h => len_nil h)) ρ ds ρ1 h; show 0 + ds.length = 1; omega))) m_nil)) (show blkC ["moved", "place", "step"] (defScope s_breaks_of) _ _ = true from by decide +kernel) (fun _ _ _ _ _ => m_gtup rfl (m_gcons (m_gname 1 (nopin rfl) nd) (m_gcons (m_gname 2 (nopin rfl) nd) m_gnil))) (fun _ _ _ _ _ => pts_one (m_pcmp (op_neP hr.units) om_ne (m_var 2) m_int)) (fun _ _ _ _ _ => m_var 1) (by simp only [List.map_cons, List.map_nil]; intro i hi; simp only [List.mem_cons, List.not_mem_nil, or_false] at hi; (first | (rcases hi with rfl | rfl) | skip) <;> exact nopin rfl)))
theorem ok_returns_of (T : Top K mg) : FnOk P w K mg base (L2.CX P w) 2 T.a_returns_of T.d_returns_of ["moved"] (spM K mg 1 0 .fresh F_returns_of) :=
  def_ok (N := ["moved", "found", "free", "steps", "last", "step", "starts", "first"]) (np := 1) (no := 0) (k := 1) (m := .fresh) (body := M_returns_of) T.F_returns_of sc_returns_of rfl (by decide) fun cdv A outer s H E F as has hr => by
    obtain rfl := List.length_eq_zero_iff.mp has
    have nd := sc_returns_of.nd
    have tk : Takes (cxOf (L2.CX P w) P w K mg base ["moved", "found", "free", "steps", "last", "step", "starts", "first"] "returns_of" (defScope s_returns_of) T.a_returns_of cdv A outer s H E) (fun cls d _ H' => E cls d H') := takes_of rfl rfl rfl rfl
    have pso : PassesOwn (model P w) (A.deeper (PyProof.Rows.envOfC "returns_of" (defScope s_returns_of) s.heap.objs.size T.a_returns_of cdv)) (PyProof.Rows.envOfC "returns_of" (defScope s_returns_of) s.heap.objs.size T.a_returns_of cdv) (cxOf (L2.CX P w) P w K mg base ["moved", "found", "free", "steps", "last", "step", "starts", "first"] "returns_of" (defScope s_returns_of) T.a_returns_of cdv A outer s H E).xe := passes_of rfl
    exact m_sCons (m_par2 1 2 (nopin rfl) (nopin rfl) nd (m_consM (m_lst m_nil) (m_consM m_int m_nilM)))
        (m_sCons (m_set .pure 3 (nopin rfl) nd (m_op op_addA om_add (m_frz (m_lst (m_cons m_int m_nil))) (m_var 0)))
        (m_sCons (m_for (t := .tup [4, 5]) pso (m_enum T.z_enumerate (m_cons (m_frz (m_call (is := []) (np := 1) (m := .fresh) (ok_steps_of T) (hr.mono (by decide)) T.g_steps_of T.F_steps_of.kp T.b_steps_of tk (m_ar0 (m_cons (m_var 0) m_nil)) (fun ρ ds ρ1 h => by have q := (len_cons (fun _ _ _ h => len_nil h)) ρ ds ρ1 h; show 0 + ds.length = 1; omega))) m_nil)) (m_gtup rfl (m_gcons (m_gname 4 (nopin rfl) nd) (m_gcons (m_gname 5 (nopin rfl) nd) m_gnil))) (m_sCons (m_ifS (m_pcmp (op_eqP hr.units) om_eq (m_var 5) m_int) (m_sOne (m_set .pure 2 (nopin rfl) nd (m_op op_addA om_add (m_var 4) m_int))) m_sNil)
        (m_sCons (m_setLcF 6 (t := .name 7) (own := [("first", 7)]) (nopin rfl) nd (m_rng2 T.z_range (m_cons (m_var 2) (m_cons (m_var 4) m_nil))) (show blkC ["moved", "found", "free", "steps", "last", "step", "starts", "first"] (defScope s_returns_of) _ _ = true from by decide +kernel) (fun _ _ _ _ _ => m_gname 7 (nopin rfl) nd) (fun _ _ _ _ _ => pts_one (m_pcmp (op_eqP hr.units) om_eq (m_ix (m_var 3) (m_var 7)) (m_ix (m_var 0) (m_var 4)))) (fun _ _ _ _ _ => m_var 7) (by simp only [List.map_cons, List.map_nil]; intro i hi; simp only [List.mem_cons, List.not_mem_nil, or_false] at hi; (first | (rcases hi with rfl) | skip) <;> exact nopin rfl))
        (m_sOne (m_ifS (PW.pt (m_and (m_pcmp (op_neP hr.units) om_ne (m_var 5) m_int) (pw_and1 (m_truth (m_var 6))))) (m_sCons (m_expr (m_append (i := 1) ⟨rfl, by first | exact Or.inl rfl | exact Or.inr (Or.inl rfl) | exact Or.inr (Or.inr rfl), by decide, by decide⟩ (m_tup (m_cons (m_ix (m_var 6) (m_un un_neg um_neg m_int)) (m_cons (m_var 4) m_nil)))))
        (m_sOne (m_set .pure 2 (nopin rfl) nd (m_op op_addA om_add (m_var 4) m_int)))) m_sNil)))))
        (m_sOne (m_retO 1 (nopin rfl)))))
theorem ok_fewest_of (T : Top K mg) : FnOk P w K mg base (L2.CX P w) 3 T.a_fewest_of T.d_fewest_of ["moved"] (spM K mg 1 0 .pure F_fewest_of) :=
  def_ok (N := ["moved"]) (np := 1) (no := 0) (k := 2) (m := .pure) (body := M_fewest_of) T.F_fewest_of sc_fewest_of rfl (by decide) fun cdv A outer s H E F as has hr => by
    obtain rfl := List.length_eq_zero_iff.mp has
    have nd := sc_fewest_of.nd
    have tk : Takes (cxOf (L2.CX P w) P w K mg base ["moved"] "fewest_of" (defScope s_fewest_of) T.a_fewest_of cdv A outer s H E) (fun cls d _ H' => E cls d H') := takes_of rfl rfl rfl rfl
    have pso : PassesOwn (model P w) (A.deeper (PyProof.Rows.envOfC "fewest_of" (defScope s_fewest_of) s.heap.objs.size T.a_fewest_of cdv)) (PyProof.Rows.envOfC "fewest_of" (defScope s_fewest_of) s.heap.objs.size T.a_fewest_of cdv) (cxOf (L2.CX P w) P w K mg base ["moved"] "fewest_of" (defScope s_fewest_of) T.a_fewest_of cdv A outer s H E).xe := passes_of rfl
    exact m_sOne (m_ret (m_op op_sub om_sub (m_callB call_len_seq cm_len T.z_len (m_cons (m_frz (m_call (is := []) (np := 1) (m := .fresh) (ok_breaks_of T) (hr.mono (by decide)) T.g_breaks_of T.F_breaks_of.kp T.b_breaks_of tk (m_ar0 (m_cons (m_var 0) m_nil)) (fun ρ ds ρ1 h => by have q := (len_cons (fun _ _ _ h => len_nil h)) ρ ds ρ1 h; show 0 + ds.length = 1; omega))) m_nil)) (m_callB call_len_seq cm_len T.z_len (m_cons (m_frz (m_call (is := []) (np := 1) (m := .fresh) (ok_returns_of T) (hr.mono (by decide)) T.g_returns_of T.F_returns_of.kp T.b_returns_of tk (m_ar0 (m_cons (m_var 0) m_nil)) (fun ρ ds ρ1 h => by have q := (len_cons (fun _ _ _ h => len_nil h)) ρ ds ρ1 h; show 0 + ds.length = 1; omega))) m_nil))))
theorem ok_shifts_of (T : Top K mg) : FnOk P w K mg base (L2.CX P w) 1 T.a_shifts_of T.d_shifts_of ["first", "second"] (spM K mg 2 0 .fresh F_shifts_of) :=
  def_ok (N := ["first", "second", "old", "new"]) (np := 2) (no := 0) (k := 0) (m := .fresh) (body := M_shifts_of) T.F_shifts_of sc_shifts_of rfl (by decide) fun cdv A outer s H E F as has hr => by
    obtain rfl := List.length_eq_zero_iff.mp has
    have nd := sc_shifts_of.nd
    have tk : Takes (cxOf (L2.CX P w) P w K mg base ["first", "second", "old", "new"] "shifts_of" (defScope s_shifts_of) T.a_shifts_of cdv A outer s H E) (fun cls d _ H' => E cls d H') := takes_of rfl rfl rfl rfl
    have pso : PassesOwn (model P w) (A.deeper (PyProof.Rows.envOfC "shifts_of" (defScope s_shifts_of) s.heap.objs.size T.a_shifts_of cdv)) (PyProof.Rows.envOfC "shifts_of" (defScope s_shifts_of) s.heap.objs.size T.a_shifts_of cdv) (cxOf (L2.CX P w) P w K mg base ["first", "second", "old", "new"] "shifts_of" (defScope s_shifts_of) T.a_shifts_of cdv A outer s H E).xe := passes_of rfl
    exact m_sOne (m_retF (m_lc (t := .tup [2, 3]) (own := [("old", 2), ("new", 3)]) nd (m_zipK T.z_zip (m_cons (m_var 0) (m_cons (m_var 1) m_nil))) (show blkC ["first", "second", "old", "new"] (defScope s_shifts_of) _ _ = true from by decide +kernel) (fun _ _ _ _ _ => m_gtup rfl (m_gcons (m_gname 2 (nopin rfl) nd) (m_gcons (m_gname 3 (nopin rfl) nd) m_gnil))) (fun _ _ _ _ _ => m_yes) (fun _ _ _ _ _ => m_op op_sub om_sub (m_var 3) (m_var 2)) (by simp only [List.map_cons, List.map_nil]; intro i hi; simp only [List.mem_cons, List.not_mem_nil, or_false] at hi; (first | (rcases hi with rfl | rfl) | skip) <;> exact nopin rfl)))
theorem ok_fewest (T : Top K mg) : FnOk P w K mg base (L2.CX P w) 5 T.a_fewest T.d_fewest ["first", "second"] (spM K mg 2 0 .pure F_fewest) :=
  def_ok (N := ["first", "second"]) (np := 2) (no := 0) (k := 4) (m := .pure) (body := M_fewest) T.F_fewest sc_fewest rfl (by decide) fun cdv A outer s H E F as has hr => by
    obtain rfl := List.length_eq_zero_iff.mp has
    have nd := sc_fewest.nd
    have tk : Takes (cxOf (L2.CX P w) P w K mg base ["first", "second"] "fewest" (defScope s_fewest) T.a_fewest cdv A outer s H E) (fun cls d _ H' => E cls d H') := takes_of rfl rfl rfl rfl
    have pso : PassesOwn (model P w) (A.deeper (PyProof.Rows.envOfC "fewest" (defScope s_fewest) s.heap.objs.size T.a_fewest cdv)) (PyProof.Rows.envOfC "fewest" (defScope s_fewest) s.heap.objs.size T.a_fewest cdv) (cxOf (L2.CX P w) P w K mg base ["first", "second"] "fewest" (defScope s_fewest) T.a_fewest cdv A outer s H E).xe := passes_of rfl
    exact m_sCons (m_expr (m_call (is := []) (np := 2) (m := .pure) (ok_require_rows T) (hr.mono (by decide)) T.g_require_rows T.F_require_rows.kp T.b_require_rows tk (m_ar0 (m_cons (m_var 0) (m_cons (m_var 1) m_nil))) (fun ρ ds ρ1 h => by have q := (len_cons (len_cons (fun _ _ _ h => len_nil h))) ρ ds ρ1 h; show 0 + ds.length = 2; omega)))
        (m_sOne (m_ret (m_call (is := []) (np := 1) (m := .pure) (ok_fewest_of T) (hr.mono (by decide)) T.g_fewest_of T.F_fewest_of.kp T.b_fewest_of tk (m_ar0 (m_cons (m_frz (m_call (is := []) (np := 2) (m := .fresh) (ok_shifts_of T) (hr.mono (by decide)) T.g_shifts_of T.F_shifts_of.kp T.b_shifts_of tk (m_ar0 (m_cons (m_var 0) (m_cons (m_var 1) m_nil))) (fun ρ ds ρ1 h => by have q := (len_cons (len_cons (fun _ _ _ h => len_nil h))) ρ ds ρ1 h; show 0 + ds.length = 2; omega))) m_nil)) (fun ρ ds ρ1 h => by have q := (len_cons (fun _ _ _ h => len_nil h)) ρ ds ρ1 h; show 0 + ds.length = 1; omega))))
theorem ok_law (T : Top K mg) : FnOk P w K mg base (L2.CX P w) 6 T.a_law T.d_law ["script"] (spM K mg 1 0 .pure F_law) :=
  def_ok (N := ["script", "k", "wishes", "bag", "turn", "wide", "times", "due", "best", "place", "time"]) (np := 1) (no := 0) (k := 5) (m := .pure) (body := M_law) T.F_law sc_law rfl (by decide) fun cdv A outer s H E F as has hr => by
    obtain rfl := List.length_eq_zero_iff.mp has
    have nd := sc_law.nd
    have tk : Takes (cxOf (L2.CX P w) P w K mg base ["script", "k", "wishes", "bag", "turn", "wide", "times", "due", "best", "place", "time"] "law" (defScope s_law) T.a_law cdv A outer s H E) (fun cls d _ H' => E cls d H') := takes_of rfl rfl rfl rfl
    have pso : PassesOwn (model P w) (A.deeper (PyProof.Rows.envOfC "law" (defScope s_law) s.heap.objs.size T.a_law cdv)) (PyProof.Rows.envOfC "law" (defScope s_law) s.heap.objs.size T.a_law cdv) (cxOf (L2.CX P w) P w K mg base ["script", "k", "wishes", "bag", "turn", "wide", "times", "due", "best", "place", "time"] "law" (defScope s_law) T.a_law cdv A outer s H E).xe := passes_of rfl
    exact m_sCons (m_for (t := .name 1) pso (m_rng1 T.z_range (m_cons (m_op op_addA om_add (m_callB (call_min2 rfl) cm_min2 T.z_min (m_cons (m_callB call_len_seq cm_len T.z_len (m_cons (m_var 0) m_nil)) (m_cons m_int m_nil))) m_int) m_nil)) (m_gname 1 (nopin rfl) nd) (m_sCons (m_set .fresh 3 (nopin rfl) nd (m_call (is := []) (np := 2) (m := .fresh) (ok__law_bag T) (hr.mono (by decide)) T.g__law_bag T.F__law_bag.kp T.b__law_bag tk (m_ar0 (m_cons (m_var 0) (m_cons (m_var 1) m_nil))) (fun ρ ds ρ1 h => by have q := (len_cons (len_cons (fun _ _ _ h => len_nil h))) ρ ds ρ1 h; show 0 + ds.length = 2; omega)))
        (m_sOne (m_for (t := .name 4) pso (m_rng1 T.z_range (m_cons m_int m_nil)) (m_gname 4 (nopin rfl) nd) (m_sCons (m_set .pure 5 (nopin rfl) nd (m_call (is := [3]) (np := 2) (m := .pure) (ok__law_of T) (hr.mono (by decide)) T.g__law_of T.F__law_of.kp T.b__law_of tk (m_ar1 3 (m_ar0 (m_cons (m_frz (m_lst (m_cons m_int (m_cons m_int (m_cons m_int m_nil))))) m_nil))) (fun ρ ds ρ1 h => by have q := (len_cons (fun _ _ _ h => len_nil h)) ρ ds ρ1 h; show 1 + ds.length = 2; omega)))
        (m_sCons (m_set .pure 6 (nopin rfl) nd (m_call (is := [3]) (np := 3) (m := .pure) (ok__law_times T) (hr.mono (by decide)) T.g__law_times T.F__law_times.kp T.b__law_times tk (m_ar1 3 (m_ar0 (m_cons (m_op op_addA om_add m_int (m_call (is := [3]) (np := 2) (m := .pure) (ok__law_take T) (hr.mono (by decide)) T.g__law_take T.F__law_take.kp T.b__law_take tk (m_ar1 3 (m_ar0 (m_cons m_int m_nil))) (fun ρ ds ρ1 h => by have q := (len_cons (fun _ _ _ h => len_nil h)) ρ ds ρ1 h; show 1 + ds.length = 2; omega))) (m_cons m_int m_nil)))) (fun ρ ds ρ1 h => by have q := (len_cons (len_cons (fun _ _ _ h => len_nil h))) ρ ds ρ1 h; show 1 + ds.length = 3; omega)))
        (m_sCons (m_set .pure 2 (nopin rfl) nd (m_call (is := [3]) (np := 3) (m := .pure) (ok__law_wishes T) (hr.mono (by decide)) T.g__law_wishes T.F__law_wishes.kp T.b__law_wishes tk (m_ar1 3 (m_ar0 (m_cons (m_var 6) (m_cons (m_var 5) m_nil)))) (fun ρ ds ρ1 h => by have q := (len_cons (len_cons (fun _ _ _ h => len_nil h))) ρ ds ρ1 h; show 1 + ds.length = 3; omega)))
        (m_sCons (m_par2 7 8 (nopin rfl) (nopin rfl) nd (m_consM (m_call (is := []) (np := 2) (m := .pure) (ok__law_fewest T) (hr.mono (by decide)) T.g__law_fewest T.F__law_fewest.kp T.b__law_fewest tk (m_ar0 (m_cons (m_var 6) (m_cons (m_var 2) m_nil))) (fun ρ ds ρ1 h => by have q := (len_cons (len_cons (fun _ _ _ h => len_nil h))) ρ ds ρ1 h; show 0 + ds.length = 2; omega)) (m_consM (m_call (is := []) (np := 2) (m := .pure) (ok_best_times T) (hr.mono (by decide)) T.g_best_times T.F_best_times.kp T.b_best_times tk (m_ar0 (m_cons (m_var 6) (m_cons (m_var 2) m_nil))) (fun ρ ds ρ1 h => by have q := (len_cons (len_cons (fun _ _ _ h => len_nil h))) ρ ds ρ1 h; show 0 + ds.length = 2; omega)) m_nilM)))
        (m_sCons (m_ifS (PW.pt (m_or (m_pcmp (op_neP hr.units) om_ne (m_call (is := []) (np := 2) (m := .pure) (ok_fewest_wish T) (hr.mono (by decide)) T.g_fewest_wish T.F_fewest_wish.kp T.b_fewest_wish tk (m_ar0 (m_cons (m_var 6) (m_cons (m_var 2) m_nil))) (fun ρ ds ρ1 h => by have q := (len_cons (len_cons (fun _ _ _ h => len_nil h))) ρ ds ρ1 h; show 0 + ds.length = 2; omega)) (m_var 7)) (pw_or1 (m_pcmp (op_neP hr.units) om_ne (m_call (is := []) (np := 2) (m := .pure) (ok_fewest T) (hr.mono (by decide)) T.g_fewest T.F_fewest.kp T.b_fewest tk (m_ar0 (m_cons (m_var 6) (m_cons (m_var 8) m_nil))) (fun ρ ds ρ1 h => by have q := (len_cons (len_cons (fun _ _ _ h => len_nil h))) ρ ds ρ1 h; show 0 + ds.length = 2; omega)) (m_var 7))))) (m_sOne (m_ret m_bl)) m_sNil)
        (m_sCons (m_ifS (PW.pt (m_or (m_not (m_truth (m_isi .tuple T.z_isinstance T.z_tuple (m_var 8) (by decide +kernel)))) (pw_or1 (m_pcmp (op_neP hr.units) om_ne (m_callB call_len_seq cm_len T.z_len (m_cons (m_var 8) m_nil)) (m_callB call_len_seq cm_len T.z_len (m_cons (m_var 6) m_nil)))))) (m_sOne (m_ret m_bl)) m_sNil)
        (m_sOne (m_ifS (m_pcmp (op_neP hr.units) om_ne (m_frz (m_lc (t := .tup [9, 10]) (own := [("place", 9), ("time", 10)]) nd (m_enum T.z_enumerate (m_cons (m_var 8) m_nil)) (show blkC ["script", "k", "wishes", "bag", "turn", "wide", "times", "due", "best", "place", "time"] (defScope s_law) _ _ = true from by decide +kernel) (fun _ _ _ _ _ => m_gtup rfl (m_gcons (m_gname 9 (nopin rfl) nd) (m_gcons (m_gname 10 (nopin rfl) nd) m_gnil))) (fun _ _ _ _ _ => pts_one (m_not (m_truth (m_call (is := []) (np := 3) (m := .pure) (ok__law_good T) (hr.mono (by decide)) T.g__law_good T.F__law_good.kp T.b__law_good takes0 (m_ar0 (m_cons m_int (m_cons (m_var 10) (m_cons (m_ix (m_var 2) (m_var 9)) m_nil)))) (fun ρ ds ρ1 h => by have q := (len_cons (len_cons (len_cons (fun _ _ _ h => len_nil h)))) ρ ds ρ1 h; show 0 + ds.length = 3; omega))))) (fun _ _ _ _ _ => m_int) (by simp only [List.map_cons, List.map_nil]; intro i hi; simp only [List.mem_cons, List.not_mem_nil, or_false] at hi; (first | (rcases hi with rfl | rfl) | skip) <;> exact nopin rfl))) (m_frz (m_lst m_nil))) (m_sOne (m_ret m_bl)) m_sNil))))))))))))
        (m_sCons (m_set .pure 2 (nopin rfl) nd (m_tup (m_cons m_non (m_cons (m_tup (m_cons m_int (m_cons m_int m_nil))) (m_cons (m_tup (m_cons m_int (m_cons m_int m_nil))) (m_cons (m_tup (m_cons m_int (m_cons m_int m_nil))) m_nil))))))
        (m_sOne (m_ret (m_andV (m_cmp (op_eqP hr.units) om_eq (m_call (is := []) (np := 2) (m := .pure) (ok_fewest_wish T) (hr.mono (by decide)) T.g_fewest_wish T.F_fewest_wish.kp T.b_fewest_wish tk (m_ar0 (m_cons (m_tup (m_cons m_int (m_cons m_int (m_cons m_int (m_cons m_int m_nil))))) (m_cons (m_var 2) m_nil))) (fun ρ ds ρ1 h => by have q := (len_cons (len_cons (fun _ _ _ h => len_nil h))) ρ ds ρ1 h; show 0 + ds.length = 2; omega)) m_int) (pe_one (m_cmp (op_eqP hr.units) om_eq (m_call (is := []) (np := 2) (m := .pure) (ok_best_times T) (hr.mono (by decide)) T.g_best_times T.F_best_times.kp T.b_best_times tk (m_ar0 (m_cons (m_tup (m_cons m_int (m_cons m_int m_nil))) (m_cons (m_tup (m_cons (m_tup (m_cons m_int (m_cons m_int m_nil))) (m_cons (m_tup (m_cons m_int (m_cons m_int m_nil))) m_nil))) m_nil))) (fun ρ ds ρ1 h => by have q := (len_cons (len_cons (fun _ _ _ h => len_nil h))) ρ ds ρ1 h; show 0 + ds.length = 2; omega)) (m_tup (m_cons m_int (m_cons m_int m_nil)))))))))
end
theorem all_fin {P : Program} {w : World} {K : PySem.W.Frag} {h : Heap} {mg : Str → Option Value} {fa : Addr} (X : K.In h) (G : h.Ns mainGlobals mg) (hfa : mg "law" = some (.ref fa)) {f0_a : Addr} {f0_od f0_an : Option Addr} {f0_sl : Array (Option Value)} {f0_oc f0_kV f0_dc f0_pm f0_cd f0_ct : Value} {f1_a : Addr} {f1_od f1_an : Option Addr} {f1_sl : Array (Option Value)} {f1_oc f1_kV f1_dc f1_pm f1_cd f1_ct : Value} {f2_a : Addr} {f2_od f2_an : Option Addr} {f2_sl : Array (Option Value)} {f2_oc f2_kV f2_dc f2_pm f2_cd f2_ct : Value} {f3_a : Addr} {f3_od f3_an : Option Addr} {f3_sl : Array (Option Value)} {f3_oc f3_kV f3_dc f3_pm f3_cd f3_ct : Value} {f4_a : Addr} {f4_od f4_an : Option Addr} {f4_sl : Array (Option Value)} {f4_oc f4_kV f4_dc f4_pm f4_cd f4_ct : Value} {f5_a : Addr} {f5_od f5_an : Option Addr} {f5_sl : Array (Option Value)} {f5_oc f5_kV f5_dc f5_pm f5_cd f5_ct : Value} {f6_a : Addr} {f6_od f6_an : Option Addr} {f6_sl : Array (Option Value)} {f6_oc f6_kV f6_dc f6_pm f6_cd f6_ct : Value} {f7_a : Addr} {f7_od f7_an : Option Addr} {f7_sl : Array (Option Value)} {f7_oc f7_kV f7_dc f7_pm f7_cd f7_ct : Value} {f8_a : Addr} {f8_od f8_an : Option Addr} {f8_sl : Array (Option Value)} {f8_oc f8_kV f8_dc f8_pm f8_cd f8_ct : Value} {f9_a : Addr} {f9_od f9_an : Option Addr} {f9_sl : Array (Option Value)} {f9_oc f9_kV f9_dc f9_pm f9_cd f9_ct : Value} {f10_a : Addr} {f10_od f10_an : Option Addr} {f10_sl : Array (Option Value)} {f10_oc f10_kV f10_dc f10_pm f10_cd f10_ct : Value} {f11_a : Addr} {f11_od f11_an : Option Addr} {f11_sl : Array (Option Value)} {f11_oc f11_kV f11_dc f11_pm f11_cd f11_ct : Value} {f12_a : Addr} {f12_od f12_an : Option Addr} {f12_sl : Array (Option Value)} {f12_oc f12_kV f12_dc f12_pm f12_cd f12_ct : Value} {f13_a : Addr} {f13_od f13_an : Option Addr} {f13_sl : Array (Option Value)} {f13_oc f13_kV f13_dc f13_pm f13_cd f13_ct : Value} {f14_a : Addr} {f14_od f14_an : Option Addr} {f14_sl : Array (Option Value)} {f14_oc f14_kV f14_dc f14_pm f14_cd f14_ct : Value} {f15_a : Addr} {f15_od f15_an : Option Addr} {f15_sl : Array (Option Value)} {f15_oc f15_kV f15_dc f15_pm f15_cd f15_ct : Value} {f16_a : Addr} {f16_od f16_an : Option Addr} {f16_sl : Array (Option Value)} {f16_oc f16_kV f16_dc f16_pm f16_cd f16_ct : Value} {f17_a : Addr} {f17_od f17_an : Option Addr} {f17_sl : Array (Option Value)} {f17_oc f17_kV f17_dc f17_pm f17_cd f17_ct : Value} {f18_a : Addr} {f18_od f18_an : Option Addr} {f18_sl : Array (Option Value)} {f18_oc f18_kV f18_dc f18_pm f18_cd f18_ct : Value} {f19_a : Addr} {f19_od f19_an : Option Addr} {f19_sl : Array (Option Value)} {f19_oc f19_kV f19_dc f19_pm f19_cd f19_ct : Value} {f20_a : Addr} {f20_od f20_an : Option Addr} {f20_sl : Array (Option Value)} {f20_oc f20_kV f20_dc f20_pm f20_cd f20_ct : Value} {f21_a : Addr} {f21_od f21_an : Option Addr} {f21_sl : Array (Option Value)} {f21_oc f21_kV f21_dc f21_pm f21_cd f21_ct : Value} {f22_a : Addr} {f22_od f22_an : Option Addr} {f22_sl : Array (Option Value)} {f22_oc f22_kV f22_dc f22_pm f22_cd f22_ct : Value} {f23_a : Addr} {f23_od f23_an : Option Addr} {f23_sl : Array (Option Value)} {f23_oc f23_kV f23_dc f23_pm f23_cd f23_ct : Value} {f24_a : Addr} {f24_od f24_an : Option Addr} {f24_sl : Array (Option Value)} {f24_oc f24_kV f24_dc f24_pm f24_cd f24_ct : Value} {f25_a : Addr} {f25_od f25_an : Option Addr} {f25_sl : Array (Option Value)} {f25_oc f25_kV f25_dc f25_pm f25_cd f25_ct : Value} {t_LARGEST : Tok} {t_LONGEST : Tok} {C_InvalidTimes : Addr} {C_InvalidWishes : Addr}
  (f0_h : PySem.W.nsIn K mainGlobals "_law_bag" = some (some (.ref f0_a)))
  (f0_l : K.lookup f0_a = some ⟨f0_oc, f0_od, .func (PySem.W.fnOf "_law_bag" "_law_bag" (defArgs s__law_bag) (defBody s__law_bag) (defScope s__law_bag) .none f0_kV f0_dc f0_pm f0_an f0_cd f0_ct), f0_sl⟩)
  (f0_c : PySem.W.codeIn K f0_cd "_law_bag" = true) (f0_k : PySem.W.keepIn K (.ref f0_a) = true)
  (f1_h : PySem.W.nsIn K mainGlobals "_law_take" = some (some (.ref f1_a)))
  (f1_l : K.lookup f1_a = some ⟨f1_oc, f1_od, .func (PySem.W.fnOf "_law_take" "_law_take" (defArgs s__law_take) (defBody s__law_take) (defScope s__law_take) .none f1_kV f1_dc f1_pm f1_an f1_cd f1_ct), f1_sl⟩)
  (f1_c : PySem.W.codeIn K f1_cd "_law_take" = true) (f1_k : PySem.W.keepIn K (.ref f1_a) = true)
  (f2_h : PySem.W.nsIn K mainGlobals "_law_of" = some (some (.ref f2_a)))
  (f2_l : K.lookup f2_a = some ⟨f2_oc, f2_od, .func (PySem.W.fnOf "_law_of" "_law_of" (defArgs s__law_of) (defBody s__law_of) (defScope s__law_of) .none f2_kV f2_dc f2_pm f2_an f2_cd f2_ct), f2_sl⟩)
  (f2_c : PySem.W.codeIn K f2_cd "_law_of" = true) (f2_k : PySem.W.keepIn K (.ref f2_a) = true)
  (f3_h : PySem.W.nsIn K mainGlobals "_law_times" = some (some (.ref f3_a)))
  (f3_l : K.lookup f3_a = some ⟨f3_oc, f3_od, .func (PySem.W.fnOf "_law_times" "_law_times" (defArgs s__law_times) (defBody s__law_times) (defScope s__law_times) .none f3_kV f3_dc f3_pm f3_an f3_cd f3_ct), f3_sl⟩)
  (f3_c : PySem.W.codeIn K f3_cd "_law_times" = true) (f3_k : PySem.W.keepIn K (.ref f3_a) = true)
  (f4_h : PySem.W.nsIn K mainGlobals "_law_wishes" = some (some (.ref f4_a)))
  (f4_l : K.lookup f4_a = some ⟨f4_oc, f4_od, .func (PySem.W.fnOf "_law_wishes" "_law_wishes" (defArgs s__law_wishes) (defBody s__law_wishes) (defScope s__law_wishes) .none f4_kV f4_dc f4_pm f4_an f4_cd f4_ct), f4_sl⟩)
  (f4_c : PySem.W.codeIn K f4_cd "_law_wishes" = true) (f4_k : PySem.W.keepIn K (.ref f4_a) = true)
  (f5_h : PySem.W.nsIn K mainGlobals "is_integer" = some (some (.ref f5_a)))
  (f5_l : K.lookup f5_a = some ⟨f5_oc, f5_od, .func (PySem.W.fnOf "is_integer" "is_integer" (defArgs s_is_integer) (defBody s_is_integer) (defScope s_is_integer) .none f5_kV f5_dc f5_pm f5_an f5_cd f5_ct), f5_sl⟩)
  (f5_c : PySem.W.codeIn K f5_cd "is_integer" = true) (f5_k : PySem.W.keepIn K (.ref f5_a) = true)
  (f6_h : PySem.W.nsIn K mainGlobals "is_times" = some (some (.ref f6_a)))
  (f6_l : K.lookup f6_a = some ⟨f6_oc, f6_od, .func (PySem.W.fnOf "is_times" "is_times" (defArgs s_is_times) (defBody s_is_times) (defScope s_is_times) .none f6_kV f6_dc f6_pm f6_an f6_cd f6_ct), f6_sl⟩)
  (f6_c : PySem.W.codeIn K f6_cd "is_times" = true) (f6_k : PySem.W.keepIn K (.ref f6_a) = true)
  (f7_h : PySem.W.nsIn K mainGlobals "require_times" = some (some (.ref f7_a)))
  (f7_l : K.lookup f7_a = some ⟨f7_oc, f7_od, .func (PySem.W.fnOf "require_times" "require_times" (defArgs s_require_times) (defBody s_require_times) (defScope s_require_times) .none f7_kV f7_dc f7_pm f7_an f7_cd f7_ct), f7_sl⟩)
  (f7_c : PySem.W.codeIn K f7_cd "require_times" = true) (f7_k : PySem.W.keepIn K (.ref f7_a) = true)
  (f8_h : PySem.W.nsIn K mainGlobals "is_range" = some (some (.ref f8_a)))
  (f8_l : K.lookup f8_a = some ⟨f8_oc, f8_od, .func (PySem.W.fnOf "is_range" "is_range" (defArgs s_is_range) (defBody s_is_range) (defScope s_is_range) .none f8_kV f8_dc f8_pm f8_an f8_cd f8_ct), f8_sl⟩)
  (f8_c : PySem.W.codeIn K f8_cd "is_range" = true) (f8_k : PySem.W.keepIn K (.ref f8_a) = true)
  (f9_h : PySem.W.nsIn K mainGlobals "require_wishes" = some (some (.ref f9_a)))
  (f9_l : K.lookup f9_a = some ⟨f9_oc, f9_od, .func (PySem.W.fnOf "require_wishes" "require_wishes" (defArgs s_require_wishes) (defBody s_require_wishes) (defScope s_require_wishes) .none f9_kV f9_dc f9_pm f9_an f9_cd f9_ct), f9_sl⟩)
  (f9_c : PySem.W.codeIn K f9_cd "require_wishes" = true) (f9_k : PySem.W.keepIn K (.ref f9_a) = true)
  (f10_h : PySem.W.nsIn K mainGlobals "best_bases" = some (some (.ref f10_a)))
  (f10_l : K.lookup f10_a = some ⟨f10_oc, f10_od, .func (PySem.W.fnOf "best_bases" "best_bases" (defArgs s_best_bases) (defBody s_best_bases) (defScope s_best_bases) .none f10_kV f10_dc f10_pm f10_an f10_cd f10_ct), f10_sl⟩)
  (f10_c : PySem.W.codeIn K f10_cd "best_bases" = true) (f10_k : PySem.W.keepIn K (.ref f10_a) = true)
  (f11_h : PySem.W.nsIn K mainGlobals "best_of" = some (some (.ref f11_a)))
  (f11_l : K.lookup f11_a = some ⟨f11_oc, f11_od, .func (PySem.W.fnOf "best_of" "best_of" (defArgs s_best_of) (defBody s_best_of) (defScope s_best_of) .none f11_kV f11_dc f11_pm f11_an f11_cd f11_ct), f11_sl⟩)
  (f11_c : PySem.W.codeIn K f11_cd "best_of" = true) (f11_k : PySem.W.keepIn K (.ref f11_a) = true)
  (f12_h : PySem.W.nsIn K mainGlobals "fewest_wish" = some (some (.ref f12_a)))
  (f12_l : K.lookup f12_a = some ⟨f12_oc, f12_od, .func (PySem.W.fnOf "fewest_wish" "fewest_wish" (defArgs s_fewest_wish) (defBody s_fewest_wish) (defScope s_fewest_wish) .none f12_kV f12_dc f12_pm f12_an f12_cd f12_ct), f12_sl⟩)
  (f12_c : PySem.W.codeIn K f12_cd "fewest_wish" = true) (f12_k : PySem.W.keepIn K (.ref f12_a) = true)
  (f13_h : PySem.W.nsIn K mainGlobals "best_times" = some (some (.ref f13_a)))
  (f13_l : K.lookup f13_a = some ⟨f13_oc, f13_od, .func (PySem.W.fnOf "best_times" "best_times" (defArgs s_best_times) (defBody s_best_times) (defScope s_best_times) .none f13_kV f13_dc f13_pm f13_an f13_cd f13_ct), f13_sl⟩)
  (f13_c : PySem.W.codeIn K f13_cd "best_times" = true) (f13_k : PySem.W.keepIn K (.ref f13_a) = true)
  (f14_h : PySem.W.nsIn K mainGlobals "_law_cuts" = some (some (.ref f14_a)))
  (f14_l : K.lookup f14_a = some ⟨f14_oc, f14_od, .func (PySem.W.fnOf "_law_cuts" "_law_cuts" (defArgs s__law_cuts) (defBody s__law_cuts) (defScope s__law_cuts) .none f14_kV f14_dc f14_pm f14_an f14_cd f14_ct), f14_sl⟩)
  (f14_c : PySem.W.codeIn K f14_cd "_law_cuts" = true) (f14_k : PySem.W.keepIn K (.ref f14_a) = true)
  (f15_h : PySem.W.nsIn K mainGlobals "_law_good" = some (some (.ref f15_a)))
  (f15_l : K.lookup f15_a = some ⟨f15_oc, f15_od, .func (PySem.W.fnOf "_law_good" "_law_good" (defArgs s__law_good) (defBody s__law_good) (defScope s__law_good) .none f15_kV f15_dc f15_pm f15_an f15_cd f15_ct), f15_sl⟩)
  (f15_c : PySem.W.codeIn K f15_cd "_law_good" = true) (f15_k : PySem.W.keepIn K (.ref f15_a) = true)
  (f16_h : PySem.W.nsIn K mainGlobals "_law_common" = some (some (.ref f16_a)))
  (f16_l : K.lookup f16_a = some ⟨f16_oc, f16_od, .func (PySem.W.fnOf "_law_common" "_law_common" (defArgs s__law_common) (defBody s__law_common) (defScope s__law_common) .none f16_kV f16_dc f16_pm f16_an f16_cd f16_ct), f16_sl⟩)
  (f16_c : PySem.W.codeIn K f16_cd "_law_common" = true) (f16_k : PySem.W.keepIn K (.ref f16_a) = true)
  (f17_h : PySem.W.nsIn K mainGlobals "_law_fewest" = some (some (.ref f17_a)))
  (f17_l : K.lookup f17_a = some ⟨f17_oc, f17_od, .func (PySem.W.fnOf "_law_fewest" "_law_fewest" (defArgs s__law_fewest) (defBody s__law_fewest) (defScope s__law_fewest) .none f17_kV f17_dc f17_pm f17_an f17_cd f17_ct), f17_sl⟩)
  (f17_c : PySem.W.codeIn K f17_cd "_law_fewest" = true) (f17_k : PySem.W.keepIn K (.ref f17_a) = true)
  (f18_h : PySem.W.nsIn K mainGlobals "require_rows" = some (some (.ref f18_a)))
  (f18_l : K.lookup f18_a = some ⟨f18_oc, f18_od, .func (PySem.W.fnOf "require_rows" "require_rows" (defArgs s_require_rows) (defBody s_require_rows) (defScope s_require_rows) .none f18_kV f18_dc f18_pm f18_an f18_cd f18_ct), f18_sl⟩)
  (f18_c : PySem.W.codeIn K f18_cd "require_rows" = true) (f18_k : PySem.W.keepIn K (.ref f18_a) = true)
  (f19_h : PySem.W.nsIn K mainGlobals "steps_of" = some (some (.ref f19_a)))
  (f19_l : K.lookup f19_a = some ⟨f19_oc, f19_od, .func (PySem.W.fnOf "steps_of" "steps_of" (defArgs s_steps_of) (defBody s_steps_of) (defScope s_steps_of) .none f19_kV f19_dc f19_pm f19_an f19_cd f19_ct), f19_sl⟩)
  (f19_c : PySem.W.codeIn K f19_cd "steps_of" = true) (f19_k : PySem.W.keepIn K (.ref f19_a) = true)
  (f20_h : PySem.W.nsIn K mainGlobals "breaks_of" = some (some (.ref f20_a)))
  (f20_l : K.lookup f20_a = some ⟨f20_oc, f20_od, .func (PySem.W.fnOf "breaks_of" "breaks_of" (defArgs s_breaks_of) (defBody s_breaks_of) (defScope s_breaks_of) .none f20_kV f20_dc f20_pm f20_an f20_cd f20_ct), f20_sl⟩)
  (f20_c : PySem.W.codeIn K f20_cd "breaks_of" = true) (f20_k : PySem.W.keepIn K (.ref f20_a) = true)
  (f21_h : PySem.W.nsIn K mainGlobals "returns_of" = some (some (.ref f21_a)))
  (f21_l : K.lookup f21_a = some ⟨f21_oc, f21_od, .func (PySem.W.fnOf "returns_of" "returns_of" (defArgs s_returns_of) (defBody s_returns_of) (defScope s_returns_of) .none f21_kV f21_dc f21_pm f21_an f21_cd f21_ct), f21_sl⟩)
  (f21_c : PySem.W.codeIn K f21_cd "returns_of" = true) (f21_k : PySem.W.keepIn K (.ref f21_a) = true)
  (f22_h : PySem.W.nsIn K mainGlobals "fewest_of" = some (some (.ref f22_a)))
  (f22_l : K.lookup f22_a = some ⟨f22_oc, f22_od, .func (PySem.W.fnOf "fewest_of" "fewest_of" (defArgs s_fewest_of) (defBody s_fewest_of) (defScope s_fewest_of) .none f22_kV f22_dc f22_pm f22_an f22_cd f22_ct), f22_sl⟩)
  (f22_c : PySem.W.codeIn K f22_cd "fewest_of" = true) (f22_k : PySem.W.keepIn K (.ref f22_a) = true)
  (f23_h : PySem.W.nsIn K mainGlobals "shifts_of" = some (some (.ref f23_a)))
  (f23_l : K.lookup f23_a = some ⟨f23_oc, f23_od, .func (PySem.W.fnOf "shifts_of" "shifts_of" (defArgs s_shifts_of) (defBody s_shifts_of) (defScope s_shifts_of) .none f23_kV f23_dc f23_pm f23_an f23_cd f23_ct), f23_sl⟩)
  (f23_c : PySem.W.codeIn K f23_cd "shifts_of" = true) (f23_k : PySem.W.keepIn K (.ref f23_a) = true)
  (f24_h : PySem.W.nsIn K mainGlobals "fewest" = some (some (.ref f24_a)))
  (f24_l : K.lookup f24_a = some ⟨f24_oc, f24_od, .func (PySem.W.fnOf "fewest" "fewest" (defArgs s_fewest) (defBody s_fewest) (defScope s_fewest) .none f24_kV f24_dc f24_pm f24_an f24_cd f24_ct), f24_sl⟩)
  (f24_c : PySem.W.codeIn K f24_cd "fewest" = true) (f24_k : PySem.W.keepIn K (.ref f24_a) = true)
  (f25_h : PySem.W.nsIn K mainGlobals "law" = some (some (.ref f25_a)))
  (f25_l : K.lookup f25_a = some ⟨f25_oc, f25_od, .func (PySem.W.fnOf "law" "law" (defArgs s_law) (defBody s_law) (defScope s_law) .none f25_kV f25_dc f25_pm f25_an f25_cd f25_ct), f25_sl⟩)
  (f25_c : PySem.W.codeIn K f25_cd "law" = true) (f25_k : PySem.W.keepIn K (.ref f25_a) = true)
  (q_LARGEST : PySem.W.nsIn K mainGlobals "LARGEST" = some (some (.int 1000000000000 t_LARGEST)))
  (q_LONGEST : PySem.W.nsIn K mainGlobals "LONGEST" = some (some (.int 30 t_LONGEST)))
  (z_all : PySem.W.nsIn K mainGlobals "all" = some none)
  (z_bool : PySem.W.nsIn K mainGlobals "bool" = some none)
  (z_enumerate : PySem.W.nsIn K mainGlobals "enumerate" = some none)
  (z_int : PySem.W.nsIn K mainGlobals "int" = some none)
  (z_isinstance : PySem.W.nsIn K mainGlobals "isinstance" = some none)
  (z_len : PySem.W.nsIn K mainGlobals "len" = some none)
  (z_list : PySem.W.nsIn K mainGlobals "list" = some none)
  (z_max : PySem.W.nsIn K mainGlobals "max" = some none)
  (z_min : PySem.W.nsIn K mainGlobals "min" = some none)
  (z_range : PySem.W.nsIn K mainGlobals "range" = some none)
  (z_set : PySem.W.nsIn K mainGlobals "set" = some none)
  (z_sorted : PySem.W.nsIn K mainGlobals "sorted" = some none)
  (z_tuple : PySem.W.nsIn K mainGlobals "tuple" = some none)
  (z_zip : PySem.W.nsIn K mainGlobals "zip" = some none)
  (g_InvalidTimes : PySem.W.nsIn K mainGlobals "InvalidTimes" = some (some (.ref C_InvalidTimes))) (x_InvalidTimes : PySem.W.excIn K C_InvalidTimes [.type "ValueError", .type "Exception", .type "BaseException", .type "object"] "ValueError.__new__" = true) (k_InvalidTimes : PySem.W.keepIn K (.ref C_InvalidTimes) = true) (s_InvalidTimes : PySem.W.subIn K (.ref C_InvalidTimes) (.type "BaseException") = some true) (t_InvalidTimes : PySem.W.typeIn K (.ref C_InvalidTimes) = some (.type "type"))
  (g_InvalidWishes : PySem.W.nsIn K mainGlobals "InvalidWishes" = some (some (.ref C_InvalidWishes))) (x_InvalidWishes : PySem.W.excIn K C_InvalidWishes [.type "ValueError", .type "Exception", .type "BaseException", .type "object"] "ValueError.__new__" = true) (k_InvalidWishes : PySem.W.keepIn K (.ref C_InvalidWishes) = true) (s_InvalidWishes : PySem.W.subIn K (.ref C_InvalidWishes) (.type "BaseException") = some true) (t_InvalidWishes : PySem.W.typeIn K (.ref C_InvalidWishes) = some (.type "type")) : ∃ fd : FuncData, (∀ (s : Shared) (v : Value), BindsTo s fd ⟨[v], []⟩ [("script", v)]) ∧ ∀ base : Heap, FnOk P w K mg base (L2.CX P w) 6 fa fd ["script"] (spM K mg 1 0 .pure F_law) := by
  have e := hfa.symm.trans (PySem.W.mg_of X G f25_h)
  have e2 : f25_a = fa := by cases e; rfl
  subst e2
  let T : Top K mg :=
    { a__law_bag := f0_a,
      d__law_bag := _,
      F__law_bag := fun_mk (st := s__law_bag) f0_l f0_c f0_k,
      g__law_bag := PySem.W.mg_of X G f0_h,
      b__law_bag := (fun_mk (st := s__law_bag) f0_l f0_c f0_k).binds (ps := ["script", "k"]) fun _ _ _ _ _ _ us hl => match us, hl with | [_, _], _ => rfl,
      a__law_take := f1_a,
      d__law_take := _,
      F__law_take := fun_mk (st := s__law_take) f1_l f1_c f1_k,
      g__law_take := PySem.W.mg_of X G f1_h,
      b__law_take := (fun_mk (st := s__law_take) f1_l f1_c f1_k).binds (ps := ["bag", "count"]) fun _ _ _ _ _ _ us hl => match us, hl with | [_, _], _ => rfl,
      a__law_of := f2_a,
      d__law_of := _,
      F__law_of := fun_mk (st := s__law_of) f2_l f2_c f2_k,
      g__law_of := PySem.W.mg_of X G f2_h,
      b__law_of := (fun_mk (st := s__law_of) f2_l f2_c f2_k).binds (ps := ["bag", "some"]) fun _ _ _ _ _ _ us hl => match us, hl with | [_, _], _ => rfl,
      a__law_times := f3_a,
      d__law_times := _,
      F__law_times := fun_mk (st := s__law_times) f3_l f3_c f3_k,
      g__law_times := PySem.W.mg_of X G f3_h,
      b__law_times := (fun_mk (st := s__law_times) f3_l f3_c f3_k).binds (ps := ["bag", "many", "wide"]) fun _ _ _ _ _ _ us hl => match us, hl with | [_, _, _], _ => rfl,
      a__law_wishes := f4_a,
      d__law_wishes := _,
      F__law_wishes := fun_mk (st := s__law_wishes) f4_l f4_c f4_k,
      g__law_wishes := PySem.W.mg_of X G f4_h,
      b__law_wishes := (fun_mk (st := s__law_wishes) f4_l f4_c f4_k).binds (ps := ["bag", "times", "wide"]) fun _ _ _ _ _ _ us hl => match us, hl with | [_, _, _], _ => rfl,
      a_is_integer := f5_a,
      d_is_integer := _,
      F_is_integer := fun_mk (st := s_is_integer) f5_l f5_c f5_k,
      g_is_integer := PySem.W.mg_of X G f5_h,
      b_is_integer := (fun_mk (st := s_is_integer) f5_l f5_c f5_k).binds (ps := ["value", "low", "high"]) fun _ _ _ _ _ _ us hl => match us, hl with | [_, _, _], _ => rfl,
      a_is_times := f6_a,
      d_is_times := _,
      F_is_times := fun_mk (st := s_is_times) f6_l f6_c f6_k,
      g_is_times := PySem.W.mg_of X G f6_h,
      b_is_times := (fun_mk (st := s_is_times) f6_l f6_c f6_k).binds (ps := ["value"]) fun _ _ _ _ _ _ us hl => match us, hl with | [_], _ => rfl,
      a_require_times := f7_a,
      d_require_times := _,
      F_require_times := fun_mk (st := s_require_times) f7_l f7_c f7_k,
      g_require_times := PySem.W.mg_of X G f7_h,
      b_require_times := (fun_mk (st := s_require_times) f7_l f7_c f7_k).binds (ps := ["times"]) fun _ _ _ _ _ _ us hl => match us, hl with | [_], _ => rfl,
      a_is_range := f8_a,
      d_is_range := _,
      F_is_range := fun_mk (st := s_is_range) f8_l f8_c f8_k,
      g_is_range := PySem.W.mg_of X G f8_h,
      b_is_range := (fun_mk (st := s_is_range) f8_l f8_c f8_k).binds (ps := ["value"]) fun _ _ _ _ _ _ us hl => match us, hl with | [_], _ => rfl,
      a_require_wishes := f9_a,
      d_require_wishes := _,
      F_require_wishes := fun_mk (st := s_require_wishes) f9_l f9_c f9_k,
      g_require_wishes := PySem.W.mg_of X G f9_h,
      b_require_wishes := (fun_mk (st := s_require_wishes) f9_l f9_c f9_k).binds (ps := ["times", "wishes"]) fun _ _ _ _ _ _ us hl => match us, hl with | [_, _], _ => rfl,
      a_best_bases := f10_a,
      d_best_bases := _,
      F_best_bases := fun_mk (st := s_best_bases) f10_l f10_c f10_k,
      g_best_bases := PySem.W.mg_of X G f10_h,
      b_best_bases := (fun_mk (st := s_best_bases) f10_l f10_c f10_k).binds (ps := ["ranges", "bases", "one", "following"]) fun _ _ _ _ _ _ us hl => match us, hl with | [_, _, _, _], _ => rfl,
      a_best_of := f11_a,
      d_best_of := _,
      F_best_of := fun_mk (st := s_best_of) f11_l f11_c f11_k,
      g_best_of := PySem.W.mg_of X G f11_h,
      b_best_of := (fun_mk (st := s_best_of) f11_l f11_c f11_k).binds (ps := ["times", "wishes"]) fun _ _ _ _ _ _ us hl => match us, hl with | [_, _], _ => rfl,
      a_fewest_wish := f12_a,
      d_fewest_wish := _,
      F_fewest_wish := fun_mk (st := s_fewest_wish) f12_l f12_c f12_k,
      g_fewest_wish := PySem.W.mg_of X G f12_h,
      b_fewest_wish := (fun_mk (st := s_fewest_wish) f12_l f12_c f12_k).binds (ps := ["times", "wishes"]) fun _ _ _ _ _ _ us hl => match us, hl with | [_, _], _ => rfl,
      a_best_times := f13_a,
      d_best_times := _,
      F_best_times := fun_mk (st := s_best_times) f13_l f13_c f13_k,
      g_best_times := PySem.W.mg_of X G f13_h,
      b_best_times := (fun_mk (st := s_best_times) f13_l f13_c f13_k).binds (ps := ["times", "wishes"]) fun _ _ _ _ _ _ us hl => match us, hl with | [_, _], _ => rfl,
      a__law_cuts := f14_a,
      d__law_cuts := _,
      F__law_cuts := fun_mk (st := s__law_cuts) f14_l f14_c f14_k,
      g__law_cuts := PySem.W.mg_of X G f14_h,
      b__law_cuts := (fun_mk (st := s__law_cuts) f14_l f14_c f14_k).binds (ps := ["many"]) fun _ _ _ _ _ _ us hl => match us, hl with | [_], _ => rfl,
      a__law_good := f15_a,
      d__law_good := _,
      F__law_good := fun_mk (st := s__law_good) f15_l f15_c f15_k,
      g__law_good := PySem.W.mg_of X G f15_h,
      b__law_good := (fun_mk (st := s__law_good) f15_l f15_c f15_k).binds (ps := ["shift", "time", "wish"]) fun _ _ _ _ _ _ us hl => match us, hl with | [_, _, _], _ => rfl,
      a__law_common := f16_a,
      d__law_common := _,
      F__law_common := fun_mk (st := s__law_common) f16_l f16_c f16_k,
      g__law_common := PySem.W.mg_of X G f16_h,
      b__law_common := (fun_mk (st := s__law_common) f16_l f16_c f16_k).binds (ps := ["times", "wishes", "low", "high", "is_first"]) fun _ _ _ _ _ _ us hl => match us, hl with | [_, _, _, _, _], _ => rfl,
      a__law_fewest := f17_a,
      d__law_fewest := _,
      F__law_fewest := fun_mk (st := s__law_fewest) f17_l f17_c f17_k,
      g__law_fewest := PySem.W.mg_of X G f17_h,
      b__law_fewest := (fun_mk (st := s__law_fewest) f17_l f17_c f17_k).binds (ps := ["times", "wishes"]) fun _ _ _ _ _ _ us hl => match us, hl with | [_, _], _ => rfl,
      a_require_rows := f18_a,
      d_require_rows := _,
      F_require_rows := fun_mk (st := s_require_rows) f18_l f18_c f18_k,
      g_require_rows := PySem.W.mg_of X G f18_h,
      b_require_rows := (fun_mk (st := s_require_rows) f18_l f18_c f18_k).binds (ps := ["first", "second"]) fun _ _ _ _ _ _ us hl => match us, hl with | [_, _], _ => rfl,
      a_steps_of := f19_a,
      d_steps_of := _,
      F_steps_of := fun_mk (st := s_steps_of) f19_l f19_c f19_k,
      g_steps_of := PySem.W.mg_of X G f19_h,
      b_steps_of := (fun_mk (st := s_steps_of) f19_l f19_c f19_k).binds (ps := ["moved"]) fun _ _ _ _ _ _ us hl => match us, hl with | [_], _ => rfl,
      a_breaks_of := f20_a,
      d_breaks_of := _,
      F_breaks_of := fun_mk (st := s_breaks_of) f20_l f20_c f20_k,
      g_breaks_of := PySem.W.mg_of X G f20_h,
      b_breaks_of := (fun_mk (st := s_breaks_of) f20_l f20_c f20_k).binds (ps := ["moved"]) fun _ _ _ _ _ _ us hl => match us, hl with | [_], _ => rfl,
      a_returns_of := f21_a,
      d_returns_of := _,
      F_returns_of := fun_mk (st := s_returns_of) f21_l f21_c f21_k,
      g_returns_of := PySem.W.mg_of X G f21_h,
      b_returns_of := (fun_mk (st := s_returns_of) f21_l f21_c f21_k).binds (ps := ["moved"]) fun _ _ _ _ _ _ us hl => match us, hl with | [_], _ => rfl,
      a_fewest_of := f22_a,
      d_fewest_of := _,
      F_fewest_of := fun_mk (st := s_fewest_of) f22_l f22_c f22_k,
      g_fewest_of := PySem.W.mg_of X G f22_h,
      b_fewest_of := (fun_mk (st := s_fewest_of) f22_l f22_c f22_k).binds (ps := ["moved"]) fun _ _ _ _ _ _ us hl => match us, hl with | [_], _ => rfl,
      a_shifts_of := f23_a,
      d_shifts_of := _,
      F_shifts_of := fun_mk (st := s_shifts_of) f23_l f23_c f23_k,
      g_shifts_of := PySem.W.mg_of X G f23_h,
      b_shifts_of := (fun_mk (st := s_shifts_of) f23_l f23_c f23_k).binds (ps := ["first", "second"]) fun _ _ _ _ _ _ us hl => match us, hl with | [_, _], _ => rfl,
      a_fewest := f24_a,
      d_fewest := _,
      F_fewest := fun_mk (st := s_fewest) f24_l f24_c f24_k,
      g_fewest := PySem.W.mg_of X G f24_h,
      b_fewest := (fun_mk (st := s_fewest) f24_l f24_c f24_k).binds (ps := ["first", "second"]) fun _ _ _ _ _ _ us hl => match us, hl with | [_, _], _ => rfl,
      a_law := f25_a,
      d_law := _,
      F_law := fun_mk (st := s_law) f25_l f25_c f25_k,
      g_law := PySem.W.mg_of X G f25_h,
      b_law := (fun_mk (st := s_law) f25_l f25_c f25_k).binds (ps := ["script"]) fun _ _ _ _ _ _ us hl => match us, hl with | [_], _ => rfl,
      k_LARGEST := t_LARGEST,
      c_LARGEST := PySem.W.mg_of X G q_LARGEST,
      k_LONGEST := t_LONGEST,
      c_LONGEST := PySem.W.mg_of X G q_LONGEST,
      z_all := PySem.W.mg_none_of X G z_all,
      z_bool := PySem.W.mg_none_of X G z_bool,
      z_enumerate := PySem.W.mg_none_of X G z_enumerate,
      z_int := PySem.W.mg_none_of X G z_int,
      z_isinstance := PySem.W.mg_none_of X G z_isinstance,
      z_len := PySem.W.mg_none_of X G z_len,
      z_list := PySem.W.mg_none_of X G z_list,
      z_max := PySem.W.mg_none_of X G z_max,
      z_min := PySem.W.mg_none_of X G z_min,
      z_range := PySem.W.mg_none_of X G z_range,
      z_set := PySem.W.mg_none_of X G z_set,
      z_sorted := PySem.W.mg_none_of X G z_sorted,
      z_tuple := PySem.W.mg_none_of X G z_tuple,
      z_zip := PySem.W.mg_none_of X G z_zip,
      e_InvalidTimes := C_InvalidTimes,
      g_InvalidTimes := PySem.W.mg_of X G g_InvalidTimes,
      x_InvalidTimes := x_InvalidTimes,
      k_InvalidTimes := k_InvalidTimes,
      s_InvalidTimes := s_InvalidTimes,
      t_InvalidTimes := t_InvalidTimes,
      e_InvalidWishes := C_InvalidWishes,
      g_InvalidWishes := PySem.W.mg_of X G g_InvalidWishes,
      x_InvalidWishes := x_InvalidWishes,
      k_InvalidWishes := k_InvalidWishes,
      s_InvalidWishes := s_InvalidWishes,
      t_InvalidWishes := t_InvalidWishes }
  exact ⟨T.d_law, fun s v => .of_eq rfl, fun base => ok_law T⟩
end Lk10
set_option Elab.async false
set_option linter.all false
set_option maxRecDepth 100000
set_option maxHeartbeats 2000000
namespace Cap
open PySem PySem.Spec L2 Mi
def intsD (xs : List Int) : List D := xs.map .int
@[simp] theorem intsD_len (xs : List Int) : (intsD xs).length = xs.length := by simp [intsD]
theorem intsD_nil : intsD [] = [] := rfl
theorem intsD_cons (x : Int) (xs : List Int) : intsD (x :: xs) = .int x :: intsD xs := rfl
theorem intsD_app (xs ys : List Int) : intsD (xs ++ ys) = intsD xs ++ intsD ys := by simp [intsD]
theorem intsD_get (xs : List Int) (i : Nat) : (intsD xs)[i]? = (xs[i]?).map .int := by simp [intsD]
theorem plainAll_ints : ∀ xs : List Int, PyData.plainAll (intsD xs) = true
  | [] => by simp [intsD, PyData.plainAll]
  | x :: xs => by simp [intsD_cons, PyData.plainAll, PyData.plain, plainAll_ints xs]
theorem depthAll_ints : ∀ xs : List Int, PyData.depthAll (intsD xs) = 0
  | [] => by simp [intsD, PyData.depthAll]
  | x :: xs => by simp [intsD_cons, PyData.depthAll, PyData.depth, depthAll_ints xs]
theorem eqvAll_ints : ∀ xs ys : List Int, PyData.eqvAll (intsD xs) (intsD ys) = decide (xs = ys)
  | [], [] => by simp [intsD, PyData.eqvAll]
  | [], _ :: _ => by simp [intsD, PyData.eqvAll]
  | _ :: _, [] => by simp [intsD, PyData.eqvAll]
  | x :: xs, y :: ys => by
    simp only [intsD_cons, PyData.eqvAll, PyData.eqv, eqvAll_ints xs ys]
    by_cases h : x = y <;> by_cases h2 : xs = ys <;> simp [h, h2]
theorem eqD_of {d e : D} (h1 : d.plain = true) (h2 : e.plain = true) (h3 : d.depth ≤ 60 ∨ e.depth ≤ 60) : eqD d e = some (.bool (PyData.eqv d e)) := by
  unfold eqD eqOk
  rw [h1, h2, if_pos]
  simp
  omega
theorem neD_of {d e : D} (h1 : d.plain = true) (h2 : e.plain = true) (h3 : d.depth ≤ 60 ∨ e.depth ≤ 60) : neD d e = some (.bool (!PyData.eqv d e)) := by
  unfold neD eqOk
  rw [h1, h2, if_pos]
  simp
  omega
@[simp] theorem eq_int (x y : Int) : eqD (.int x) (.int y) = some (.bool (decide (x = y))) := by
  rw [eqD_of (by simp [PyData.plain]) (by simp [PyData.plain]) (by simp [PyData.depth])]
  by_cases h : x = y <;> simp [PyData.eqv, h]
@[simp] theorem ne_int (x y : Int) : neD (.int x) (.int y) = some (.bool (decide (x ≠ y))) := by
  rw [neD_of (by simp [PyData.plain]) (by simp [PyData.plain]) (by simp [PyData.depth])]
  by_cases h : x = y <;> simp [PyData.eqv, h]
@[simp] theorem eq_ints (x y : List Int) : eqD (.list (intsD x)) (.list (intsD y)) = some (.bool (decide (x = y))) := by
  rw [eqD_of (by simp [PyData.plain, plainAll_ints]) (by simp [PyData.plain, plainAll_ints]) (by simp [PyData.depth, depthAll_ints])]
  simp [PyData.eqv, eqvAll_ints]
@[simp] theorem ne_ints (x y : List Int) : neD (.list (intsD x)) (.list (intsD y)) = some (.bool (decide (x ≠ y))) := by
  rw [neD_of (by simp [PyData.plain, plainAll_ints]) (by simp [PyData.plain, plainAll_ints]) (by simp [PyData.depth, depthAll_ints])]
  simp [PyData.eqv, eqvAll_ints]
@[simp] theorem eq_intsT (x y : List Int) : eqD (.tuple (intsD x)) (.tuple (intsD y)) = some (.bool (decide (x = y))) := by
  rw [eqD_of (by simp [PyData.plain, plainAll_ints]) (by simp [PyData.plain, plainAll_ints]) (by simp [PyData.depth, depthAll_ints])]
  simp [PyData.eqv, eqvAll_ints]
@[simp] theorem ne_intsT (x y : List Int) : neD (.tuple (intsD x)) (.tuple (intsD y)) = some (.bool (decide (x ≠ y))) := by
  rw [neD_of (by simp [PyData.plain, plainAll_ints]) (by simp [PyData.plain, plainAll_ints]) (by simp [PyData.depth, depthAll_ints])]
  simp [PyData.eqv, eqvAll_ints]
theorem intsOf_ints : ∀ xs : List Int, intsOf (intsD xs) = some xs
  | [] => rfl
  | x :: xs => by simp [intsD_cons, intsOf, intsOf_ints xs]
theorem boolsOf_bools : ∀ xs : List Bool, boolsOf (xs.map .bool) = some xs
  | [] => rfl
  | x :: xs => by simp [boolsOf, boolsOf_bools xs]
@[simp] theorem e_sumI (xs : List Int) : sumD [.list (intsD xs)] = some (.int xs.sum) := by simp [sumD, intsOf_ints]
@[simp] theorem e_allB (xs : List Bool) : allD [.list (xs.map .bool)] = some (.bool (xs.all id)) := by simp [allD, boolsOf_bools]
theorem seqD_len (xs : List Int) : (intsD xs).length = xs.length := by simp
theorem atI_nat {α : Type} {xs : List α} {i : Nat} {x : α} (h : xs[i]? = some x) : atI xs (i : Int) = some x := by
  have hl : i < xs.length := by
    rcases Nat.lt_or_ge i xs.length with h1 | h1
    · exact h1
    · rw [List.getElem?_eq_none h1] at h; cases h
  unfold atI ixN
  rw [if_pos (by omega), if_pos (by omega)]
  simpa using h
theorem ixN_nat {n i : Nat} (h : i < n) : ixN n (i : Int) = some i := by
  unfold ixN
  rw [if_pos (by omega), if_pos (by omega)]
  simp
theorem lcL_filter {vs : List Nat} {t : Tgt} {ft : Rho → Res Bool} {fe : Rho → Res D} {ρ : Rho} (p : D → Bool) (f : D → D) : ∀ {ds : List D},
    (∀ d ∈ ds, ∃ ρ1, t.put d (wipeR vs ρ) = some ρ1 ∧ ft ρ1 = .ok (p d) ρ1 ∧ (p d = true → fe ρ1 = .ok (f d) ρ1) ∧ backR vs ρ ρ1 = ρ) → lcL vs t ft fe ds ρ = .ok ((ds.filter p).map f) ρ
  | [], _ => rfl
  | d :: ds, h => by
    obtain ⟨ρ1, e1, e2, e3, e4⟩ := h d (by simp)
    have ih := lcL_filter p f (ds := ds) fun d hd => h d (by simp [hd])
    cases q : p d with
    | true => simp [lcL, e1, e2, q, e3 q, e4, ih, List.filter_cons]
    | false => simp [lcL, e1, e2, q, e4, ih, List.filter_cons]
theorem lcL_map {vs : List Nat} {t : Tgt} {fe : Rho → Res D} {ρ : Rho} (f : D → D) {ds : List D}
    (h : ∀ d ∈ ds, ∃ ρ1, t.put d (wipeR vs ρ) = some ρ1 ∧ fe ρ1 = .ok (f d) ρ1 ∧ backR vs ρ ρ1 = ρ) : lcL vs t mYes fe ds ρ = .ok (ds.map f) ρ := by
  have := lcL_filter (vs := vs) (t := t) (ft := mYes) (fe := fe) (ρ := ρ) (fun _ => true) f (ds := ds) fun d hd => by
    obtain ⟨ρ1, e1, e2, e3⟩ := h d hd
    exact ⟨ρ1, e1, rfl, fun _ => e2, e3⟩
  rw [this, List.filter_eq_self.mpr (fun _ _ => rfl)]
/-- a comprehension whose turns change the rest: I k holds after k turns -/
theorem lcL_inv {vs : List Nat} {t : Tgt} {fe : Rho → Res D} (I : Rho → Prop) (R : D → D → Prop) : ∀ {ds : List D} {ρ : Rho}, I ρ →
    (∀ d ∈ ds, ∀ ρ, I ρ → ∃ ρ1 ρ2 y, t.put d (wipeR vs ρ) = some ρ1 ∧ fe ρ1 = .ok y ρ2 ∧ R d y ∧ I (backR vs ρ ρ2)) → ∃ ys ρ', lcL vs t mYes fe ds ρ = .ok ys ρ' ∧ I ρ' ∧ ys.length = ds.length ∧ ∀ y ∈ ys, ∃ d ∈ ds, R d y
  | [], ρ, hi, _ => ⟨[], ρ, rfl, hi, rfl, by simp⟩
  | d :: ds, ρ, hi, h => by
    obtain ⟨ρ1, ρ2, y, e1, e2, e3, e4⟩ := h d (by simp) ρ hi
    obtain ⟨ys, ρ', h1, h2, h3, h4⟩ := lcL_inv I R (ds := ds) e4 fun d hd => h d (by simp [hd])
    refine ⟨y :: ys, ρ', ?_, h2, by simp [h3], fun z hz => ?_⟩
    · simp [lcL, e1, e2, h1]
    · rcases List.mem_cons.mp hz with rfl | hz
      · exact ⟨d, by simp, e3⟩
      · obtain ⟨d', hd', r⟩ := h4 z hz
        exact ⟨d', by simp [hd'], r⟩
theorem forL_inv {t : Tgt} {f : Rho → SR} (I : Rho → Prop) : ∀ {ds : List D} {ρ : Rho}, I ρ → (∀ d ∈ ds, ∀ ρ, I ρ → ∃ ρ1 ρ2, t.put d ρ = some ρ1 ∧ (f ρ1 = .nx ρ2 ∨ f ρ1 = .ct ρ2) ∧ I ρ2) → ∃ ρ', forL t f ds ρ = .nx ρ' ∧ I ρ'
  | [], ρ, hi, _ => ⟨ρ, rfl, hi⟩
  | d :: ds, ρ, hi, h => by
    obtain ⟨ρ1, ρ2, e1, e2, e3⟩ := h d (by simp) ρ hi
    obtain ⟨ρ', h1, h2⟩ := forL_inv I (ds := ds) e3 fun d hd => h d (by simp [hd])
    refine ⟨ρ', ?_, h2⟩
    rcases e2 with e2 | e2 <;> simp [forL, e1, e2, h1]
/-- the same with the turns counted: I xs: after the items xs -/
theorem forL_ind {t : Tgt} {f : Rho → SR} (I : List D → Rho → Prop) : ∀ {ds pre : List D} {ρ : Rho}, I pre ρ → (∀ pre d post ρ, pre ++ d :: post = pre ++ d :: post → I pre ρ → d ∈ ds → ∃ ρ1 ρ2, t.put d ρ = some ρ1 ∧ (f ρ1 = .nx ρ2 ∨ f ρ1 = .ct ρ2) ∧ I (pre ++ [d]) ρ2) → ∃ ρ', forL t f ds ρ = .nx ρ' ∧ I (pre ++ ds) ρ'
  | [], pre, ρ, hi, _ => ⟨ρ, rfl, by simpa using hi⟩
  | d :: ds, pre, ρ, hi, h => by
    obtain ⟨ρ1, ρ2, e1, e2, e3⟩ := h pre d ds ρ rfl hi (by simp)
    obtain ⟨ρ', h1, h2⟩ := forL_ind I (ds := ds) e3 fun pre d post ρ e hi hd => h pre d post ρ e hi (by simp [hd])
    refine ⟨ρ', ?_, by simpa using h2⟩
    rcases e2 with e2 | e2 <;> simp [forL, e1, e2, h1]
def bagD (c s : Int) : D := .list [.int c, .int s]
def IsBag (d : D) : Prop := ∃ c s, d = bagD c s
abbrev Big (n : Int) : Prop := n < 1606938044258990275541962092341162602522202993782792835301376
theorem take_ok {b : D} (hb : IsBag b) (n : Int) (h : 0 < n) (h2 : Big n) : ∃ r b', F__law_take [b] [.int n] = .ok (.int r) [b'] ∧ IsBag b' ∧ 0 ≤ r ∧ r < n := by
  obtain ⟨c, s, rfl⟩ := hb
  by_cases hc : 0 < c
  · refine ⟨c % n, bagD (c / n) s, ?_, ⟨_, _, rfl⟩, Int.emod_nonneg _ (by omega), Int.emod_lt_of_pos _ h⟩
    simp [F__law_take, M__law_take, bagD, hc, h, h2, atI, ixN]
  · have e : mulA (.int (s * 48271 % 2147483647 / 13)) (.int (s * 48271 % 2147483647 % 32749 + 17)) = some (.int (s * 48271 % 2147483647 / 13 * (s * 48271 % 2147483647 % 32749 + 17))) := e_mul _ _ (by omega)
    refine ⟨s * 48271 % 2147483647 / 13 * (s * 48271 % 2147483647 % 32749 + 17) % 2147483629 / 32 % n, bagD c (s * 48271 % 2147483647), ?_, ⟨_, _, rfl⟩, Int.emod_nonneg _ (by omega), Int.emod_lt_of_pos _ h⟩
    simp [F__law_take, M__law_take, bagD, hc, h, h2, atI, ixN, e_mul, e]
theorem pow1060 : powD (.int 10) (.int 60) = some (.int 1000000000000000000000000000000000000000000000000000000000000) := by
  rw [e_pow, if_pos (by omega)]
  rfl
theorem pow1018 : powD (.int 10) (.int 18) = some (.int 1000000000000000000) := by
  rw [e_pow, if_pos (by omega)]
  rfl
theorem bagA (ns : List Int) (k : Int) (m1 : mulA (.int 40009) (.int k) = some (.int (40009 * k))) (m2 : mulA (.int (40009 * k)) (.int k) = some (.int (40009 * k * k)))
    (m3 : mulA (.int 7919) (.int k) = some (.int (7919 * k))) (h' : ¬ k < ns.length) : ∃ b, F__law_bag [] [scrD ns, .int k] = .ok b [] ∧ IsBag b := by
  simp [F__law_bag, M__law_bag, IsBag, h', m1, m2, m3, e_mul, bagD, pow1060, pow1018, -e_pow]
theorem bagB (ns : List Int) (k cell : Int) (m1 : mulA (.int 40009) (.int k) = some (.int (40009 * k))) (m2 : mulA (.int (40009 * k)) (.int k) = some (.int (40009 * k * k)))
    (m3 : mulA (.int 7919) (.int k) = some (.int (7919 * k))) (h' : k < ns.length) (e : atI (ns.map PyData.int) k = some (.int cell)) : ∃ b, F__law_bag [] [scrD ns, .int k] = .ok b [] ∧ IsBag b := by
  by_cases h2 : cell % 1000000000000000000000000000000000000000000000000000000000000 < 1000000000000000000 <;>
    simp [F__law_bag, M__law_bag, IsBag, h', h2, e, m1, m2, m3, e_mul, bagD, pow1060, pow1018, -e_pow]
theorem scrAt_get {ns : List Int} {k : Nat} {z : Int} (h : ns[k]? = some z) : atI (ns.map PyData.int) (k : Int) = some (.int z) := atI_nat (by rw [List.getElem?_map, h]; rfl)
theorem mulk (a k : Int) (h : 0 ≤ k) (h2 : k ≤ 1000) : mulA (.int a) (.int k) = some (.int (a * k)) := e_mul _ _ (by omega)
theorem bag_ok (ns : List Int) (k : Nat) (hk : k ≤ 1000) : ∃ b, F__law_bag [] [scrD ns, .int k] = .ok b [] ∧ IsBag b := by
  have q : ∀ a : Int, mulA (.int a) (.int (k : Int)) = some (.int (a * k)) := fun a => mulk a k (by omega) (by omega)
  cases h : ns[k]? with
  | none =>
    have h1 : ns.length ≤ k := List.getElem?_eq_none_iff.mp h
    exact bagA ns k (q _) (q _) (q _) (by omega)
  | some z =>
    have h1 : k < ns.length := (List.getElem?_eq_some_iff.mp h).1
    exact bagB ns k z (q _) (q _) (q _) (by omega) (scrAt_get h)
theorem of_ok {b : D} (hb : IsBag b) (xs : List D) (h : xs ≠ []) (hl : xs.length ≤ 1000000) : ∃ x ∈ xs, ∃ b', F__law_of [b] [.list xs] = .ok x [b'] ∧ IsBag b' := by
  have hp : 0 < xs.length := List.length_pos_iff.mpr h
  obtain ⟨r, b', e, hb', h0, h1⟩ := take_ok hb (xs.length : Int) (by omega) (by omega)
  obtain ⟨k, rfl⟩ := Int.eq_ofNat_of_zero_le h0
  have hk : k < xs.length := by omega
  refine ⟨xs[k], by simp, b', ?_, hb'⟩
  have e2 : atI xs (k : Int) = some xs[k] := atI_nat (by simp [hk])
  simp [F__law_of, M__law_of, e, e2]
end Cap
set_option Elab.async false
set_option linter.all false
set_option maxRecDepth 100000
set_option maxHeartbeats 2000000
namespace Cap
open PySem PySem.Spec L2 Mi
theorem cut_sub {α : Type} {xs : List α} {lo hi : Option Int} {x : α} (h : x ∈ cut xs lo hi) : x ∈ xs := List.mem_of_mem_drop (List.mem_of_mem_take h)
theorem cut_map {α β : Type} (f : α → β) (xs : List α) (lo hi : Option Int) : cut (xs.map f) lo hi = (cut xs lo hi).map f := by simp [cut, List.map_drop, List.map_take]
theorem cut_len {α : Type} (xs : List α) (lo hi : Option Int) : (cut xs lo hi).length ≤ xs.length := by simp [cut]; omega
theorem cut_ints (xs : List Int) (lo hi : Option Int) : cut (intsD xs) lo hi = intsD (cut xs lo hi) := cut_map _ _ _ _
theorem mem_intsD {d : D} {xs : List Int} : d ∈ intsD xs ↔ ∃ x ∈ xs, d = .int x := by simp [intsD, eq_comm]
def In (lo hi : Int) (xs : List Int) : Prop := ∀ x ∈ xs, lo ≤ x ∧ x ≤ hi
theorem In.app {lo hi : Int} {xs ys : List Int} (h : In lo hi xs) (k : In lo hi ys) : In lo hi (xs ++ ys) := fun x hx => by
  rcases List.mem_append.mp hx with q | q
  · exact h x q
  · exact k x q
theorem In.cons {lo hi : Int} {x : Int} {ys : List Int} (h : lo ≤ x ∧ x ≤ hi) (k : In lo hi ys) : In lo hi (x :: ys) := fun y hx => by
  rcases List.mem_cons.mp hx with rfl | q
  · exact h
  · exact k y q
theorem In.nil {lo hi : Int} : In lo hi [] := fun _ h => by cases h
theorem In.cut {lo hi : Int} {xs : List Int} (h : In lo hi xs) (a b : Option Int) : In lo hi (cut xs a b) := fun x hx => h x (cut_sub hx)
theorem shifts_turn {b : D} (hb : IsBag b) (wide : Int) (h3 : 0 < wide) (h4 : Big wide) (own : List Int) (hl : own.length < 100000) (ho : In 0 (wide - 1) own) (m s4 s5 : Slot) :
    ∃ b' x s5', L1__law_shifts [.ow b, m, .fz (.int wide), .ow (.list (intsD own)), s4, s5] = .nx [.ow b', m, .fz (.int wide), .ow (.list (intsD (own ++ [x]))), s4, s5'] ∧ IsBag b' ∧ 0 ≤ x ∧ x ≤ wide - 1 := by
  obtain ⟨r1, b1, e1, hb1, p1, q1⟩ := take_ok hb wide h3 h4
  obtain ⟨r2, b2, e2, hb2, p2, q2⟩ := take_ok hb1 wide h3 h4
  have l1 := cut_len own (some (-2)) none
  have l2 := cut_len own (some (-1)) none
  obtain ⟨x, hx, b3, e3, hb3⟩ := of_ok hb2 (.int r1 :: .int r2 :: (intsD (cut own (some (-2)) none) ++ intsD (cut own (some (-1)) none))) (by simp) (by simp; omega)
  rw [← intsD_app, ← intsD_cons, ← intsD_cons] at hx
  obtain ⟨z, hz, rfl⟩ := mem_intsD.mp hx
  have hin : In 0 (wide - 1) (r1 :: r2 :: (cut own (some (-2)) none ++ cut own (some (-1)) none)) := .cons (by omega) (.cons (by omega) ((ho.cut _ _).app (ho.cut _ _)))
  refine ⟨b3, z, .fz (.list (.int r1 :: .int r2 :: (intsD (cut own (some (-2)) none) ++ intsD (cut own (some (-1)) none)))), ?_, hb3, hin z hz⟩
  simp (disch := omega) [L1__law_shifts, e1, e2, e3, cut_ints, intsD_app, if_pos]
  simp [intsD]
theorem for1 {n i : Nat} : (rngD 0 n)[i]? = if i < n then some (.int i) else none := by
  by_cases h : i < n <;> simp [rngD, h]
theorem forL_shifts (wide : Int) (h3 : 0 < wide) (h4 : Big wide) (m : Slot) : ∀ (ds : List D) {b : D} (hb : IsBag b) (own : List Int), own.length + ds.length < 100000 → In 0 (wide - 1) own → ∀ (s4 s5 : Slot),
    ∃ b' own' s4' s5', forL (.name 4) L1__law_shifts ds [.ow b, m, .fz (.int wide), .ow (.list (intsD own)), s4, s5] = .nx [.ow b', m, .fz (.int wide), .ow (.list (intsD own')), s4', s5'] ∧ IsBag b' ∧ own'.length = own.length + ds.length ∧ In 0 (wide - 1) own'
  | [], b, hb, own, _, ho, s4, s5 => ⟨b, own, s4, s5, rfl, hb, rfl, ho⟩
  | d :: ds, b, hb, own, hl, ho, s4, s5 => by
    obtain ⟨b1, x, s5', e1, hb1, p1⟩ := shifts_turn hb wide h3 h4 own (by simp at hl; omega) ho m (.fz d) s5
    obtain ⟨b2, own2, t4, t5, e2, hb2, hl2, ho2⟩ := forL_shifts wide h3 h4 m ds hb1 (own ++ [x]) (by simp at hl ⊢; omega) (ho.app (.cons p1 .nil)) (.fz d) s5'
    refine ⟨b2, own2, t4, t5, ?_, hb2, by simp at hl2 ⊢; omega, ho2⟩
    simp only [forL, e_putNm, List.set_cons_succ, List.set_cons_zero]
    rw [e1]
    exact e2
/-- the shifts that a law draws -/
theorem shifts_ok {b : D} (hb : IsBag b) (most wide : Int) (h1 : 0 < most) (h2 : most ≤ 1000) (h3 : 0 < wide) (h4 : Big wide) :
    ∃ own b', F__law_shifts [b] [.int most, .int wide] = .ok (.list (intsD own)) [b'] ∧ IsBag b' ∧ 1 ≤ own.length ∧ own.length ≤ most ∧ In 0 (wide - 1) own := by
  obtain ⟨r, b1, e, hb1, r0, r1⟩ := take_ok hb most h1 (by omega)
  obtain ⟨b2, own, t4, t5, e2, hb2, hl2, ho2⟩ := forL_shifts wide h3 h4 (.fz (.int most)) (rngD 0 (1 + r).toNat) hb1 [] (by rw [rngD_len]; simp; omega) .nil .un .un
  rw [rngD_len] at hl2
  refine ⟨own, b2, ?_, hb2, by simp at hl2; omega, by simp at hl2; omega, ho2⟩
  simp (disch := omega) [F__law_shifts, M__law_shifts, e, if_pos]
  rw [show ([] : List D) = intsD [] from rfl, e2]
  rfl
theorem Res.bind_eq {α β : Type} {r : Res α} {a : α} {ρ : Rho} {k : α → Rho → Res β} (h : r = .ok a ρ) : r.bind k = k a ρ := by rw [h]; rfl
/-- the times that a law draws -/
theorem times_ok {b : D} (hb : IsBag b) (many wide : Int) (h1 : 0 ≤ many) (h2 : many ≤ 100000) (h3 : 0 ≤ wide) (h4 : wide < 10000000000000000000) :
    ∃ ts b', F__law_times [b] [.int many, .int wide] = .ok (.tuple (intsD ts)) [b'] ∧ IsBag b' ∧ ts.length = many.toNat ∧ In (-wide) wide ts := by
  have key := lcL_inv (vs := [3]) (t := .name 3) (fe := C1__law_times) (fun ρ => ∃ b, IsBag b ∧ ρ = [.ow b, .fz (.int many), .fz (.int wide), .un]) (fun _ y => ∃ z : Int, y = .int z ∧ -wide ≤ z ∧ z ≤ wide)
    (ds := rngD 0 many.toNat) (ρ := [.ow b, .fz (.int many), .fz (.int wide), .un]) ⟨b, hb, rfl⟩ ?_
  · obtain ⟨ys, ρ', k1, ⟨b', hb', rfl⟩, k3, k4⟩ := key
    have : ∃ ts : List Int, ys = intsD ts ∧ In (-wide) wide ts := by
      clear k1 k3
      induction ys with
      | nil => exact ⟨[], rfl, .nil⟩
      | cons y ys ih =>
        obtain ⟨ts, rfl, h⟩ := ih fun z hz => k4 z (by simp [hz])
        obtain ⟨_, _, z, rfl, hz⟩ := k4 y (by simp)
        exact ⟨z :: ts, rfl, .cons hz h⟩
    obtain ⟨ts, rfl, hts⟩ := this
    refine ⟨ts, b', ?_, hb', by rw [rngD_len] at k3; simpa using k3, hts⟩
    simp (disch := omega) [F__law_times, M__law_times, if_pos, rngD_len, k1]
  · rintro d hd ρ ⟨b, hb, rfl⟩
    have m : mulA (.int 2) (.int wide) = some (.int (2 * wide)) := e_mul' _ _ (by omega)
    obtain ⟨r, b1, e, hb1, r0, r1⟩ := take_ok hb (2 * wide + 1) (by omega) (by omega)
    refine ⟨[.ow b, .fz (.int many), .fz (.int wide), .fz d], [.ow b1, .fz (.int many), .fz (.int wide), .fz d], .int (r - wide), by simp [wipeR], ?_, ⟨_, rfl, by omega, by omega⟩, b1, hb1, by simp [backR, keepS]⟩
    simp [C1__law_times, m, e]
end Cap
set_option Elab.async false
set_option linter.all false
set_option maxRecDepth 100000
set_option maxHeartbeats 2000000
namespace Cap
open PySem PySem.Spec L2 Mi
def isInt (d : D) (lo hi : Int) : Bool := match d with
  | .int v => decide (lo ≤ v) && decide (v ≤ hi)
  | _ => false
theorem is_integer_ok (d : D) (lo hi : Int) (hd : ∀ kv, d ≠ .dict kv) : F_is_integer [] [d, .int lo, .int hi] = .ok (.bool (isInt d lo hi)) [] := by
  cases d with
  | int v => by_cases h : lo ≤ v <;> simp [F_is_integer, M_is_integer, h, isInt]
  | dict kv => exact absurd rfl (hd kv)
  | _ => simp [F_is_integer, M_is_integer, isInt, isiD, isiB]
@[simp] theorem is_integer_i (v lo hi : Int) : F_is_integer [] [.int v, .int lo, .int hi] = .ok (.bool (decide (lo ≤ v) && decide (v ≤ hi))) [] := is_integer_ok _ _ _ (by simp)
@[simp] theorem is_integer_b (v : Bool) (lo hi : Int) : F_is_integer [] [.bool v, .int lo, .int hi] = .ok (.bool false) [] := is_integer_ok _ _ _ (by simp)
@[simp] theorem is_integer_n (lo hi : Int) : F_is_integer [] [.none, .int lo, .int hi] = .ok (.bool false) [] := is_integer_ok _ _ _ (by simp)
@[simp] theorem is_integer_s (v : Str) (lo hi : Int) : F_is_integer [] [.str v, .int lo, .int hi] = .ok (.bool false) [] := is_integer_ok _ _ _ (by simp)
@[simp] theorem is_integer_t (v : List D) (lo hi : Int) : F_is_integer [] [.tuple v, .int lo, .int hi] = .ok (.bool false) [] := is_integer_ok _ _ _ (by simp)
@[simp] theorem is_integer_l (v : List D) (lo hi : Int) : F_is_integer [] [.list v, .int lo, .int hi] = .ok (.bool false) [] := is_integer_ok _ _ _ (by simp)
theorem lcL_mapT {α : Type} {vs : List Nat} {t : Tgt} {fe : Rho → Res D} {ρ : Rho} (g f : α → D) (xs : List α)
    (h : ∀ x ∈ xs, ∃ ρ1, t.put (g x) (wipeR vs ρ) = some ρ1 ∧ fe ρ1 = .ok (f x) ρ1 ∧ backR vs ρ ρ1 = ρ) : lcL vs t mYes fe (xs.map g) ρ = .ok (xs.map f) ρ := by
  induction xs with
  | nil => rfl
  | cons x xs ih =>
    obtain ⟨ρ1, e1, e2, e3⟩ := h x (by simp)
    simp [lcL, e1, e2, e3, ih fun y hy => h y (by simp [hy])]
theorem lcL_filterT {α : Type} {vs : List Nat} {t : Tgt} {ft : Rho → Res Bool} {fe : Rho → Res D} {ρ : Rho} (g f : α → D) (p : α → Bool) (xs : List α)
    (h : ∀ x ∈ xs, ∃ ρ1, t.put (g x) (wipeR vs ρ) = some ρ1 ∧ ft ρ1 = .ok (p x) ρ1 ∧ (p x = true → fe ρ1 = .ok (f x) ρ1) ∧ backR vs ρ ρ1 = ρ) : lcL vs t ft fe (xs.map g) ρ = .ok ((xs.filter p).map f) ρ := by
  induction xs with
  | nil => rfl
  | cons x xs ih =>
    obtain ⟨ρ1, e1, e2, e3, e4⟩ := h x (by simp)
    have ih := ih fun y hy => h y (by simp [hy])
    cases q : p x with
    | true => simp [lcL, e1, e2, q, e3 q, e4, ih, List.filter_cons]
    | false => simp [lcL, e1, e2, q, e4, ih, List.filter_cons]
theorem zipD_ints (a b : List Int) : zipD (intsD a) (intsD b) = (a.zip b).map fun p => .tuple [.int p.1, .int p.2] := by
  simp [zipD, intsD, List.zip_map, Function.comp_def]
theorem enumD_ints (a : List Int) : enumD (intsD a) = a.zipIdx.map fun p => .tuple [.int (p.2 : Nat), .int p.1] := by
  simp [enumD, intsD, List.zipIdx_map, Function.comp_def]
def GoodT (xs : List Int) : Prop := 1 ≤ xs.length ∧ xs.length ≤ 30 ∧ In (-1000000000000) 1000000000000 xs
theorem is_times_ints (xs : List Int) (h : GoodT xs) : F_is_times [] [.tuple (intsD xs)] = .ok (.bool true) [] := by
  obtain ⟨h1, h2, h3⟩ := h
  have e := lcL_mapT (vs := [1]) (t := .name 1) (fe := C1_is_times) (ρ := [.fz (.tuple (intsD xs)), .un]) (fun x : Int => .int x) (fun x => .bool (decide (-1000000000000 ≤ x) && decide (x ≤ 1000000000000))) xs fun x _ =>
    ⟨[.fz (.tuple (intsD xs)), .fz (.int x)], by simp [wipeR], by simp [C1_is_times], by simp [backR, keepS]⟩
  have e2 : (xs.all fun x => decide (-1000000000000 ≤ x) && decide (x ≤ 1000000000000)) = true := by
    rw [List.all_eq_true]
    intro x hx
    have := h3 x hx
    simp; omega
  have e3 : xs.map (fun x => PyData.bool (decide (-1000000000000 ≤ x) && decide (x ≤ 1000000000000))) = (xs.map fun x => decide (-1000000000000 ≤ x) && decide (x ≤ 1000000000000)).map PyData.bool := by simp
  rw [e3] at e
  have e4 : lcL [1] (.name 1) mYes C1_is_times (intsD xs) [.fz (.tuple (intsD xs)), .un] = _ := e
  have h1' : (1 : Int) ≤ xs.length := by omega
  have h2' : (xs.length : Int) ≤ 30 := by omega
  have h3' : xs.length ≤ 1000000 := by omega
  simp [F_is_times, M_is_times, h1', h2', h3', e4, -List.map_map]
  exact h3
theorem require_times_ok (xs : List Int) (h : GoodT xs) : F_require_times [] [.tuple (intsD xs)] = .ok .none [] := by
  simp [F_require_times, M_require_times, is_times_ints xs h]
theorem require_rows_ok (xs ys : List Int) (h : GoodT xs) (k : GoodT ys) (hl : ys.length = xs.length) : F_require_rows [] [.tuple (intsD xs), .tuple (intsD ys)] = .ok .none [] := by
  simp [F_require_rows, M_require_rows, require_times_ok xs h, is_times_ints ys k, hl]
def shiftsZ (a b : List Int) : List Int := (a.zip b).map fun p => p.2 - p.1
def stepsZ (m : List Int) : List Int := ((0 :: m).zip m).map fun p => p.2 - p.1
def breaksZ (m : List Int) : List Int := ((stepsZ m).zipIdx.filter fun p => decide (p.1 ≠ 0)).map fun p => (p.2 : Int)
theorem shifts_of_ok (a b : List Int) (h : a.length ≤ 1000000) : F_shifts_of [] [.tuple (intsD a), .tuple (intsD b)] = .ok (.list (intsD (shiftsZ a b))) [] := by
  have e := lcL_mapT (vs := [2, 3]) (t := .tup [2, 3]) (fe := C1_shifts_of) (ρ := [.fz (.tuple (intsD a)), .fz (.tuple (intsD b)), .un, .un]) (fun p : Int × Int => .tuple [.int p.1, .int p.2]) (fun p => .int (p.2 - p.1)) (a.zip b) fun x _ =>
    ⟨[.fz (.tuple (intsD a)), .fz (.tuple (intsD b)), .fz (.int x.1), .fz (.int x.2)], by simp [wipeR], by simp [C1_shifts_of], by simp [backR, keepS]⟩
  have hl : min a.length b.length ≤ 1000000 := by omega
  simp [F_shifts_of, M_shifts_of, zipD_ints, e, hl]
  simp [shiftsZ, intsD]
theorem steps_of_ok (m : List Int) (h : m.length ≤ 900000) : F_steps_of [] [.list (intsD m)] = .ok (.list (intsD (stepsZ m))) [] := by
  have e := lcL_mapT (vs := [1, 2]) (t := .tup [1, 2]) (fe := C1_steps_of) (ρ := [.fz (.list (intsD m)), .un, .un]) (fun p : Int × Int => .tuple [.int p.1, .int p.2]) (fun p => .int (p.2 - p.1)) ((0 :: m).zip m) fun x _ =>
    ⟨[.fz (.list (intsD m)), .fz (.int x.1), .fz (.int x.2)], by simp [wipeR], by simp [C1_steps_of], by simp [backR, keepS]⟩
  have hl : m.length ≤ 1000000 := by omega
  have hl2 : m.length + 1 ≤ 1000000 := by omega
  simp [F_steps_of, M_steps_of, hl2, Nat.add_comm 1]
  rw [← intsD_cons, zipD_ints]
  simp [e, hl]
  simp [stepsZ, intsD]
theorem stepsZ_len (m : List Int) : (stepsZ m).length = m.length := by simp [stepsZ]
theorem breaks_of_ok (m : List Int) (h : m.length ≤ 900000) : F_breaks_of [] [.list (intsD m)] = .ok (.list (intsD (breaksZ m))) [] := by
  have e := lcL_filterT (vs := [1, 2]) (t := .tup [1, 2]) (ft := T1_breaks_of) (fe := C1_breaks_of) (ρ := [.fz (.list (intsD m)), .un, .un]) (fun p : Int × Nat => .tuple [.int (p.2 : Nat), .int p.1]) (fun p => .int (p.2 : Nat)) (fun p => decide (p.1 ≠ 0)) (stepsZ m).zipIdx fun x _ =>
    ⟨[.fz (.list (intsD m)), .fz (.int (x.2 : Nat)), .fz (.int x.1)], by simp [wipeR], by simp [T1_breaks_of], by simp [C1_breaks_of], by simp [backR, keepS]⟩
  have hl : m.length ≤ 1000000 := by omega
  simp at e
  simp [F_breaks_of, M_breaks_of, steps_of_ok m h, enumD_ints, e, hl, stepsZ_len]
  simp [breaksZ, intsD]
theorem shiftsZ_len (a b : List Int) : (shiftsZ a b).length = min a.length b.length := by simp [shiftsZ]
theorem shifts_fn (a b : List Int) (h : GoodT a) (k : GoodT b) (hl : b.length = a.length) : F_shifts [] [.tuple (intsD a), .tuple (intsD b)] = .ok (.list (intsD (shiftsZ a b))) [] := by
  have := h.2.1
  simp [F_shifts, M_shifts, require_rows_ok a b h k hl, shifts_of_ok a b (by omega)]
theorem breaks_fn (a b : List Int) (h : GoodT a) (k : GoodT b) (hl : b.length = a.length) : F_breaks [] [.tuple (intsD a), .tuple (intsD b)] = .ok (.list (intsD (breaksZ (shiftsZ a b)))) [] := by
  have := h.2.1
  simp [F_breaks, M_breaks, require_rows_ok a b h k hl, shifts_of_ok a b (by omega), breaks_of_ok (shiftsZ a b) (by rw [shiftsZ_len]; omega)]
def movedZ (a m : List Int) : List Int := (a.zip m).map fun p => p.1 + p.2
theorem moved_ok (a m : List Int) (h : a.length ≤ 1000000) : F__law_moved [] [.tuple (intsD a), .list (intsD m)] = .ok (.tuple (intsD (movedZ a m))) [] := by
  have e := lcL_mapT (vs := [2, 3]) (t := .tup [2, 3]) (fe := C1__law_moved) (ρ := [.fz (.tuple (intsD a)), .fz (.list (intsD m)), .un, .un]) (fun p : Int × Int => .tuple [.int p.1, .int p.2]) (fun p => .int (p.1 + p.2)) (a.zip m) fun x _ =>
    ⟨[.fz (.tuple (intsD a)), .fz (.list (intsD m)), .fz (.int x.1), .fz (.int x.2)], by simp [wipeR], by simp [C1__law_moved], by simp [backR, keepS]⟩
  have hl : min a.length m.length ≤ 1000000 := by omega
  simp [F__law_moved, M__law_moved, zipD_ints, e, hl]
  simp [movedZ, intsD]
theorem moved_len (a m : List Int) (h : m.length = a.length) : (movedZ a m).length = a.length := by simp [movedZ, h]
theorem shifts_moved : ∀ (a m : List Int), m.length = a.length → shiftsZ a (movedZ a m) = m
  | [], [], _ => rfl
  | [], _ :: _, h => by simp at h
  | _ :: _, [], h => by simp at h
  | x :: a, y :: m, h => by
    have ih := shifts_moved a m (by simpa using h)
    simp only [shiftsZ, movedZ, List.zip_cons_cons, List.map_cons] at ih ⊢
    rw [ih]
    congr 1
    omega
theorem moved_in (a m : List Int) (A B : Int) (h : In (-A) A a) (k : In 0 B m) : In (-A) (A + B) (movedZ a m) := by
  intro z hz
  simp only [movedZ, List.mem_map] at hz
  obtain ⟨p, hp, rfl⟩ := hz
  have h1 := h _ (List.of_mem_zip hp).1
  have h2 := k _ (List.of_mem_zip hp).2
  omega
def brk (prev : Int) (i : Nat) : List Int → List Int
  | [] => []
  | x :: xs => if x ≠ prev then (i : Int) :: brk x (i + 1) xs else brk x (i + 1) xs
theorem breaks_brk : ∀ (m : List Int) (prev : Int) (i : Nat), (((((prev :: m).zip m).map fun p => p.2 - p.1).zipIdx i).filter fun p => decide (p.1 ≠ 0)).map (fun p => (p.2 : Int)) = brk prev i m
  | [], _, _ => rfl
  | x :: m, prev, i => by
    have ih := breaks_brk m x (i + 1)
    by_cases h : x = prev
    · have h2 : x - prev = 0 := by omega
      simp only [brk, List.zip_cons_cons, List.map_cons, List.zipIdx_cons, h2] at ih ⊢
      simp [h] at ih ⊢
      exact ih
    · have h2 : x - prev ≠ 0 := by omega
      simp only [brk, List.zip_cons_cons, List.map_cons, List.zipIdx_cons] at ih ⊢
      simp [h, h2] at ih ⊢
      exact ih
theorem breaksZ_brk (m : List Int) : breaksZ m = brk 0 0 m := breaks_brk m 0 0
theorem law_brk (all : List Int) : ∀ (m : List Int) (prev : Int) (i : Nat), all.drop i = prev :: m → ((m.zipIdx i).filter fun p => decide (p.1 ≠ all.getD p.2 0)).map (fun p => (p.2 : Int)) = brk prev i m
  | [], _, _, _ => rfl
  | x :: m, prev, i, h => by
    have h1 : all.getD i 0 = prev := by
      have : (all.drop i)[0]? = some prev := by rw [h]; rfl
      rw [List.getElem?_drop] at this
      simp at this
      simp [List.getD, this]
    have h2 : all.drop (i + 1) = x :: m := by rw [← List.drop_drop, h]; rfl
    have ih := law_brk all m x (i + 1) h2
    simp only [brk, List.zipIdx_cons, List.filter_cons, h1] at ih ⊢
    by_cases q : x = prev
    · simp [q] at ih ⊢; exact ih
    · simp [q] at ih ⊢; exact ih
theorem law_breaks_ok (m : List Int) (h : m.length ≤ 900000) : F__law_breaks [] [.list (intsD m)] = .ok (.list (intsD (breaksZ m))) [] := by
  have e := lcL_filterT (vs := [1, 2]) (t := .tup [1, 2]) (ft := T1__law_breaks) (fe := C1__law_breaks) (ρ := [.fz (.list (intsD m)), .un, .un]) (fun p : Int × Nat => .tuple [.int (p.2 : Nat), .int p.1]) (fun p => .int (p.2 : Nat)) (fun p => decide (p.1 ≠ (0 :: m).getD p.2 0)) m.zipIdx fun x hx => by
    refine ⟨[.fz (.list (intsD m)), .fz (.int (x.2 : Nat)), .fz (.int x.1)], by simp [wipeR], ?_, by simp [C1__law_breaks], by simp [backR, keepS]⟩
    have hl : x.2 < m.length := by
      obtain ⟨v, i⟩ := x
      have := List.mem_zipIdx hx
      simp at this ⊢
      omega
    have e2 : atI (PyData.int 0 :: intsD m) (x.2 : Int) = some (.int ((0 :: m).getD x.2 0)) := atI_nat (by
      rw [← intsD_cons, intsD_get, List.getElem?_eq_getElem (by simp; omega)]
      simp [List.getD, List.getElem?_eq_getElem (show x.2 < (0 :: m).length by simp; omega)])
    have hl2 : 1 + m.length ≤ 1000000 := by omega
    simp only [T1__law_breaks, e_mTest, e_mBin, e_mVar, e_mLst, e_mLd, e_mCons, e_mC, e_mNil, Res.bind_ok, List.getElem?_cons_succ, e_get0, List.length_cons, List.length_nil, ofOpt_some, e_isLst, if_true, e_addL, intsD_len, hl2, List.cons_append, List.nil_append, e_ixL, e2, ne_int, e_asB, ite_true, Nat.zero_add, Nat.reduceLeDiff]
  have hl : m.length ≤ 1000000 := by omega
  simp [F__law_breaks, M__law_breaks, enumD_ints, e, hl, -List.getD_eq_getElem?_getD]
  have := law_brk (0 :: m) m 0 0 rfl
  rw [breaksZ_brk, ← this]
  simp [intsD, -List.getD_eq_getElem?_getD]
end Cap
set_option Elab.async false
set_option linter.all false
set_option maxRecDepth 100000
set_option maxHeartbeats 2000000
namespace Cap
open PySem PySem.Spec L2 Mi
/-- a command: (the word is "one", place, amount) -/
structure Cmd where
  one : Bool
  p : Int
  v : Int
def word (b : Bool) : Str := if b then "one" else "following"
def Cmd.d (c : Cmd) : D := .tuple [.str (word c.one), .int c.p, .int c.v]
def Cmd.ok (len : Int) (c : Cmd) : Prop := 0 ≤ c.p ∧ c.p ≤ len - 1 ∧ -4000000000000 ≤ c.v ∧ c.v ≤ 4000000000000 ∧ c.v ≠ 0
def cmdsD (cs : List Cmd) : List D := cs.map Cmd.d
theorem in_words (b : Bool) (neg : Bool) : inD neg (.str (word b)) (.tuple [.str "one", .str "following"]) = some (.bool (!neg)) := by
  cases b <;> cases neg <;> rfl
theorem in_wordsL (b : Bool) (neg : Bool) : inD neg (.str (word b)) (.list [.str "one", .str "following"]) = some (.bool (!neg)) := by
  cases b <;> cases neg <;> rfl
@[simp] theorem atI0 {α : Type} {a : α} {l : List α} : atI (a :: l) 0 = some a := atI_nat (i := 0) rfl
@[simp] theorem atI1 {α : Type} {a b : α} {l : List α} : atI (a :: b :: l) 1 = some b := atI_nat (i := 1) rfl
@[simp] theorem atI2 {α : Type} {a b c : α} {l : List α} : atI (a :: b :: c :: l) 2 = some c := atI_nat (i := 2) rfl
@[simp] theorem is_amount_i (v : Int) : F_is_amount [] [.int v] = .ok (.bool (decide (-4000000000000 ≤ v) && decide (v ≤ 4000000000000) && decide (v ≠ 0))) [] := by
  by_cases h : -4000000000000 ≤ v
  · by_cases h2 : v ≤ 4000000000000 <;> simp [F_is_amount, M_is_amount, h, h2]
  · simp [F_is_amount, M_is_amount, h]
@[simp] theorem is_amount_b (v : Bool) : F_is_amount [] [.bool v] = .ok (.bool false) [] := by simp [F_is_amount, M_is_amount]
theorem is_command_ok (len : Int) (c : Cmd) (h : c.ok len) : F_is_command [] [.int len, c.d] = .ok (.bool true) [] := by
  obtain ⟨h1, h2, h3, h4, h5⟩ := h
  simp [F_is_command, M_is_command, Cmd.d, in_words, h1, h2, h3, h4, h5]
/-- what is_command says of some data: the value told -/
def CmdIs (len : Int) (d : D) (b : Bool) : Prop := F_is_command [] [.int len, d] = .ok (.bool b) []
theorem are_commands_of (len : Int) (ds : List D) (bs : List Bool) (hl : ds.length ≤ 60) (h : ∀ d ∈ ds, ∃ b, CmdIs len d b ∧ True) (f : D → Bool) (hf : ∀ d ∈ ds, CmdIs len d (f d)) : F_are_commands [] [.int len, .tuple ds] = .ok (.bool (ds.all f)) [] := by
  have e := lcL_map (vs := [2]) (t := .name 2) (fe := C1_are_commands) (ρ := [.fz (.int len), .fz (.tuple ds), .un]) (fun d => .bool (f d)) (ds := ds) fun d hd =>
    ⟨[.fz (.int len), .fz (.tuple ds), .fz d], by simp [wipeR], by have := hf d hd; unfold CmdIs at this; simp [C1_are_commands, this], by simp [backR, keepS]⟩
  have hl2 : ds.length ≤ 1000000 := by omega
  have hl3 : ¬ (60 : Int) < ds.length := by omega
  have e3 : ds.map (fun x => PyData.bool (f x)) = (ds.map f).map PyData.bool := by simp
  rw [e3] at e
  simp [F_are_commands, M_are_commands, hl2, hl3, e, -List.map_map]
theorem are_commands_ok (len : Int) (cs : List Cmd) (hl : cs.length ≤ 60) (h : ∀ c ∈ cs, c.ok len) : F_are_commands [] [.int len, .tuple (cmdsD cs)] = .ok (.bool true) [] := by
  have := are_commands_of len (cmdsD cs) [] (by simpa [cmdsD] using hl) (fun d hd => ?_) (fun _ => true) fun d hd => ?_
  · rw [this]; simp
  · simp only [cmdsD, List.mem_map] at hd
    obtain ⟨c, hc, rfl⟩ := hd
    exact ⟨true, is_command_ok len c (h c hc), trivial⟩
  · simp only [cmdsD, List.mem_map] at hd
    obtain ⟨c, hc, rfl⟩ := hd
    exact is_command_ok len c (h c hc)
theorem require_length_ok (len : Int) (h : 1 ≤ len) (h2 : len ≤ 30) : F_require_length [] [.int len] = .ok .none [] := by
  simp [F_require_length, M_require_length, h, h2]
theorem require_script_ok (len : Int) (cs : List Cmd) (hl : cs.length ≤ 60) (h : ∀ c ∈ cs, c.ok len) : F_require_script [] [.int len, .tuple (cmdsD cs)] = .ok .none [] := by
  simp [F_require_script, M_require_script, are_commands_ok len cs hl h]
theorem script_turn {b : D} (hb : IsBag b) (len : Int) (h1 : 1 ≤ len) (h2 : len ≤ 30) (cs : List Cmd) (hl : cs.length < 900000) (m s4 s5 s6 s7 : Slot) :
    ∃ b' c s5' s6' s7', L1__law_script [.ow b, .fz (.int len), m, .fz (.tuple (cmdsD cs)), s4, s5, s6, s7] = .nx [.ow b', .fz (.int len), m, .fz (.tuple (cmdsD (cs ++ [c]))), s4, s5', s6', s7'] ∧ IsBag b' ∧ c.ok len ∧ -1000000000000 ≤ c.v ∧ c.v ≤ 1000000000000 := by
  -- the amount
  have am : ∃ (v : Int) (b1 : D), IsBag b1 ∧ 1 ≤ v ∧ v ≤ 1000000000000 ∧
      mIf (mTest (mBin gtD (mArgs [0] (mCons (mC (.int 9)) mNil) F__law_take) (mC (.int 0)))) (mBin addD (mC (.int 1)) (mArgs [0] (mCons (mC (.int 9)) mNil) F__law_take)) (mBin powD (mC (.int 10)) (mC (.int 12)))
        [.ow b, .fz (.int len), m, .fz (.tuple (cmdsD cs)), s4, s5, s6, s7] = .ok (.int v) [.ow b1, .fz (.int len), m, .fz (.tuple (cmdsD cs)), s4, s5, s6, s7] := by
    obtain ⟨r1, b1, e1, hb1, p1, q1⟩ := take_ok hb 9 (by omega) (by omega)
    by_cases hr : 0 < r1
    · obtain ⟨r2, b2, e2, hb2, p2, q2⟩ := take_ok hb1 9 (by omega) (by omega)
      exact ⟨1 + r2, b2, hb2, by omega, by omega, by simp [e1, e2, hr]⟩
    · exact ⟨1000000000000, b1, hb1, by omega, by omega, by simp [e1, hr]⟩
  obtain ⟨v, b1, hb1, v0, v1, ea⟩ := am
  obtain ⟨w, hw, b2, e2, hb2⟩ := of_ok hb1 [.str "one", .str "following"] (by simp) (by simp)
  obtain ⟨o, rfl⟩ : ∃ o : Bool, w = .str (word o) := by
    simp only [List.mem_cons, List.not_mem_nil, or_false] at hw
    rcases hw with rfl | rfl
    · exact ⟨true, rfl⟩
    · exact ⟨false, rfl⟩
  obtain ⟨p, b3, e3, hb3, p0, p1⟩ := take_ok hb2 len (by omega) (by omega)
  obtain ⟨x, hx, b4, e4, hb4⟩ := of_ok hb3 [.int v, .int (-v)] (by simp) (by simp)
  obtain ⟨z, rfl, hz⟩ : ∃ z : Int, x = .int z ∧ (z = v ∨ z = -v) := by
    simp only [List.mem_cons, List.not_mem_nil, or_false] at hx
    rcases hx with rfl | rfl
    · exact ⟨v, rfl, .inl rfl⟩
    · exact ⟨-v, rfl, .inr rfl⟩
  refine ⟨b4, ⟨o, p, z⟩, .fz (.int v), .fz (.str (word o)), .fz (.int p), ?_, hb4, ⟨p0, by show p ≤ len - 1; omega, by show -4000000000000 ≤ z; omega, by show z ≤ 4000000000000; omega, by show z ≠ 0; omega⟩, by show -1000000000000 ≤ z; omega, by show z ≤ 1000000000000; omega⟩
  have hl2 : cs.length + 1 ≤ 1000000 := by omega
  unfold L1__law_script
  rw [e_mSeq, e_mSetP, ea]
  simp [e2, e3, e4, hl2, cmdsD]
  simp [Cmd.d]
theorem forL_script (len : Int) (h1 : 1 ≤ len) (h2 : len ≤ 30) (m : Slot) : ∀ (ds : List D) {b : D} (hb : IsBag b) (cs : List Cmd), cs.length + ds.length < 900000 → (∀ c ∈ cs, c.ok len ∧ -1000000000000 ≤ c.v ∧ c.v ≤ 1000000000000) → ∀ (s4 s5 s6 s7 : Slot),
    ∃ b' cs' s4' s5' s6' s7', forL (.name 4) L1__law_script ds [.ow b, .fz (.int len), m, .fz (.tuple (cmdsD cs)), s4, s5, s6, s7] = .nx [.ow b', .fz (.int len), m, .fz (.tuple (cmdsD cs')), s4', s5', s6', s7'] ∧ IsBag b' ∧ cs'.length = cs.length + ds.length ∧ (∀ c ∈ cs', c.ok len ∧ -1000000000000 ≤ c.v ∧ c.v ≤ 1000000000000)
  | [], b, hb, cs, _, ho, s4, s5, s6, s7 => ⟨b, cs, s4, s5, s6, s7, rfl, hb, rfl, ho⟩
  | d :: ds, b, hb, cs, hl, ho, s4, s5, s6, s7 => by
    obtain ⟨b1, c, s5', s6', s7', e1, hb1, p1⟩ := script_turn hb len h1 h2 cs (by simp at hl; omega) m (.fz d) s5 s6 s7
    obtain ⟨b2, cs2, t4, t5, t6, t7, e2, hb2, hl2, ho2⟩ := forL_script len h1 h2 m ds hb1 (cs ++ [c]) (by simp at hl ⊢; omega) (fun x hx => by
      rcases List.mem_append.mp hx with q | q
      · exact ho x q
      · simp only [List.mem_singleton] at q; subst q; exact p1) (.fz d) s5' s6' s7'
    refine ⟨b2, cs2, t4, t5, t6, t7, ?_, hb2, by simp at hl2 ⊢; omega, ho2⟩
    simp only [forL, e_putNm, List.set_cons_succ, List.set_cons_zero]
    rw [e1]
    exact e2
/-- the script that a law draws -/
theorem script_ok {b : D} (hb : IsBag b) (len most : Int) (h1 : 1 ≤ len) (h2 : len ≤ 30) (h3 : 0 ≤ most) (h4 : most ≤ 1000) :
    ∃ (cs : List Cmd) (b' : D), F__law_script [b] [.int len, .int most] = .ok (.tuple (cmdsD cs)) [b'] ∧ IsBag b' ∧ cs.length ≤ most ∧ (∀ c ∈ cs, c.ok len ∧ -1000000000000 ≤ c.v ∧ c.v ≤ 1000000000000) := by
  obtain ⟨r, b1, e, hb1, r0, r1⟩ := take_ok hb (most + 1) (by omega) (by omega)
  obtain ⟨b2, cs, t4, t5, t6, t7, e2, hb2, hl2, ho2⟩ := forL_script len h1 h2 (.fz (.int most)) (rngD 0 r.toNat) hb1 [] (by rw [rngD_len]; simp; omega) (by simp) .un .un .un .un
  rw [rngD_len] at hl2
  refine ⟨cs, b2, ?_, hb2, by simp at hl2; omega, ho2⟩
  have q1 : -1000000 ≤ r := by omega
  have q2 : r ≤ 1000000 := by omega
  simp only [cmdsD, List.map_nil] at e2
  simp [F__law_script, M__law_script, e, q1, q2, e2, cmdsD]
end Cap
set_option Elab.async false
set_option linter.all false
set_option maxRecDepth 100000
set_option maxHeartbeats 2000000
namespace Cap
open PySem PySem.Spec L2 Mi
theorem are_commands_pairs (len : Int) (ps : List (D × Bool)) (hl : ps.length ≤ 60) (h : ∀ p ∈ ps, CmdIs len p.1 p.2) : F_are_commands [] [.int len, .tuple (ps.map (·.1))] = .ok (.bool (ps.all (·.2))) [] := by
  have e := lcL_mapT (vs := [2]) (t := .name 2) (fe := C1_are_commands) (ρ := [.fz (.int len), .fz (.tuple (ps.map (·.1))), .un]) (fun p : D × Bool => p.1) (fun p => .bool p.2) ps fun p hp =>
    ⟨[.fz (.int len), .fz (.tuple (ps.map (·.1))), .fz p.1], by simp [wipeR], by have := h p hp; unfold CmdIs at this; simp [C1_are_commands, this], by simp [backR, keepS]⟩
  have hl2 : ps.length ≤ 1000000 := by omega
  have hl3 : ¬ (60 : Int) < ps.length := by omega
  have e3 : ps.map (fun x => PyData.bool x.2) = (ps.map (·.2)).map PyData.bool := by simp
  rw [e3] at e
  simp [F_are_commands, M_are_commands, hl2, hl3, e, -List.map_map]
theorem is_script_pairs (len : Int) (h1 : 1 ≤ len) (h2 : len ≤ 30) (ps : List (D × Bool)) (hl : ps.length ≤ 60) (h : ∀ p ∈ ps, CmdIs len p.1 p.2) : F_is_script [] [.int len, .tuple (ps.map (·.1))] = .ok (.bool (ps.all (·.2))) [] := by
  simp [F_is_script, M_is_script, require_length_ok len h1 h2, are_commands_pairs len ps hl h]
theorem is_script_not (len : Int) (h1 : 1 ≤ len) (h2 : len ≤ 30) (d : D) (hd : isiD .tuple d = some (.bool false)) : F_is_script [] [.int len, d] = .ok (.bool false) [] := by
  simp [F_is_script, M_is_script, require_length_ok len h1 h2, F_are_commands, M_are_commands, hd]
theorem is_script_long (len : Int) (h1 : 1 ≤ len) (h2 : len ≤ 30) (ds : List D) (hl : 60 < ds.length) : F_is_script [] [.int len, .tuple ds] = .ok (.bool false) [] := by
  have hl2 : (60 : Int) < ds.length := by omega
  simp [F_is_script, M_is_script, require_length_ok len h1 h2, F_are_commands, M_are_commands, hl2]
theorem is_script_cmds (len : Int) (h1 : 1 ≤ len) (h2 : len ≤ 30) (cs : List Cmd) (hl : cs.length ≤ 60) (h : ∀ c ∈ cs, c.ok len) : F_is_script [] [.int len, .tuple (cmdsD cs)] = .ok (.bool true) [] := by
  simp [F_is_script, M_is_script, require_length_ok len h1 h2, are_commands_ok len cs hl h]
def Both (len : Int) (d : D) (b : Bool) : Prop := CmdIs len d b ∧ F__law_is_command [] [.int len, d] = .ok (.bool b) []
theorem in_no (a : D) (neg : Bool) (h : a.plain = true) (h1 : PyData.eqv (.str "one") a = false) (h2 : PyData.eqv (.str "following") a = false) : inD neg a (.tuple [.str "one", .str "following"]) = some (.bool neg) := by
  cases neg <;> simp [inD, inOk, h, h1, h2, PyData.plainAll, PyData.plain, PyData.depthAll, PyData.depth]
theorem in_noL (a : D) (neg : Bool) (h : a.plain = true) (h1 : PyData.eqv (.str "one") a = false) (h2 : PyData.eqv (.str "following") a = false) : inD neg a (.list [.str "one", .str "following"]) = some (.bool neg) := by
  cases neg <;> simp [inD, inOk, h, h1, h2, PyData.plainAll, PyData.plain, PyData.depthAll, PyData.depth]
@[simp] theorem ne_bool (x y : Bool) : neD (.bool x) (.bool y) = some (.bool (decide (x ≠ y))) := by
  rw [neD_of (by simp [PyData.plain]) (by simp [PyData.plain]) (by simp [PyData.depth])]
  cases x <;> cases y <;> simp [PyData.eqv]
theorem pow1012 : powD (.int 10) (.int 12) = some (.int 1000000000000) := by
  rw [e_pow, if_pos (by omega)]
  rfl
theorem both_nt (len : Int) (d : D) (hd : isiD .tuple d = some (.bool false)) : Both len d false := by
  refine ⟨?_, ?_⟩
  · simp [CmdIs, F_is_command, M_is_command, hd]
  · simp [F__law_is_command, M__law_is_command, hd]
theorem both_len (len : Int) (ds : List D) (hd : ds.length ≠ 3) : Both len (.tuple ds) false := by
  have h : (ds.length : Int) ≠ 3 := by omega
  refine ⟨?_, ?_⟩
  · simp [CmdIs, F_is_command, M_is_command, h]
  · simp [F__law_is_command, M__law_is_command, h]
theorem both_w (len : Int) (a b c : D) (h : a.plain = true) (h1 : PyData.eqv (.str "one") a = false) (h2 : PyData.eqv (.str "following") a = false) (hs : ∃ q, isiD .str a = some (.bool q)) (hb : ∀ kv, b ≠ .dict kv) (hc : ∀ kv, c ≠ .dict kv) : Both len (.tuple [a, b, c]) false := by
  obtain ⟨q, hs⟩ := hs
  refine ⟨?_, ?_⟩
  · cases q <;> simp [CmdIs, F_is_command, M_is_command, hs, in_no a _ h h1 h2]
  · simp [F__law_is_command, M__law_is_command, in_noL a _ h h1 h2]
theorem both_p (len : Int) (o : Bool) (b c : D) (hb : isInt b 0 (len - 1) = false) (hb2 : (∃ i, b = .int i) ∨ (∃ q, b = .bool q) ∨ b = .none) : Both len (.tuple [.str (word o), b, c]) false := by
  rcases hb2 with ⟨i, rfl⟩ | ⟨q, rfl⟩ | rfl
  · simp [isInt] at hb
    refine ⟨?_, ?_⟩
    · by_cases h : 0 ≤ i
      · have h2 : ¬ i ≤ len - 1 := by have := hb h; omega
        simp [CmdIs, F_is_command, M_is_command, in_words, h, h2]
      · simp [CmdIs, F_is_command, M_is_command, in_words, h]
    · by_cases h : 0 ≤ i
      · have h2 : ¬ i ≤ len - 1 := by have := hb h; omega
        simp [F__law_is_command, M__law_is_command, in_wordsL, h, h2, pow1012, -e_pow, e_mul, forL, L1__law_is_command]
      · simp [F__law_is_command, M__law_is_command, in_wordsL, h, pow1012, -e_pow, e_mul, forL, L1__law_is_command]
  · refine ⟨?_, ?_⟩
    · simp [CmdIs, F_is_command, M_is_command, in_words]
    · simp [F__law_is_command, M__law_is_command, in_wordsL, pow1012, -e_pow, e_mul, forL, L1__law_is_command]
  · refine ⟨?_, ?_⟩
    · simp [CmdIs, F_is_command, M_is_command, in_words]
    · simp [F__law_is_command, M__law_is_command, in_wordsL, pow1012, -e_pow, e_mul, forL, L1__law_is_command]
theorem both_v (len : Int) (o : Bool) (p : Int) (h0 : 0 ≤ p) (h1 : p ≤ len - 1) (v : Int) : Both len (.tuple [.str (word o), .int p, .int v]) (decide (-4000000000000 ≤ v) && decide (v ≤ 4000000000000) && decide (v ≠ 0)) := by
  refine ⟨?_, ?_⟩
  · simp [CmdIs, F_is_command, M_is_command, in_words, h0, h1]
  · by_cases h : -4000000000000 ≤ v
    · by_cases h2 : v ≤ 4000000000000
      · simp [F__law_is_command, M__law_is_command, in_wordsL, h0, h1, h, h2, pow1012, -e_pow, e_mul, forL, L1__law_is_command]
      · simp [F__law_is_command, M__law_is_command, in_wordsL, h0, h1, h, h2, pow1012, -e_pow, e_mul, forL, L1__law_is_command]
    · simp [F__law_is_command, M__law_is_command, in_wordsL, h0, h1, h, pow1012, -e_pow, e_mul, forL, L1__law_is_command]
theorem both_vb (len : Int) (o : Bool) (p : Int) (h0 : 0 ≤ p) (h1 : p ≤ len - 1) (v : Bool) : Both len (.tuple [.str (word o), .int p, .bool v]) false := by
  refine ⟨?_, ?_⟩
  · simp [CmdIs, F_is_command, M_is_command, in_words, h0, h1]
  · simp [F__law_is_command, M__law_is_command, in_wordsL, h0, h1, pow1012, -e_pow, e_mul, forL, L1__law_is_command]
end Cap
set_option Elab.async false
set_option linter.all false
set_option maxRecDepth 100000
set_option maxHeartbeats 2000000
namespace Cap
open PySem PySem.Spec L2 Mi
theorem atI_ints {xs : List Int} {i : Nat} (h : i < xs.length) : atI (intsD xs) (i : Int) = some (.int (xs.getD i 0)) := atI_nat (by
  rw [intsD_get, List.getElem?_eq_getElem h]
  simp [List.getD, List.getElem?_eq_getElem h])
theorem atI_last {α : Type} {xs : List α} {x : α} (h : xs.getLast? = some x) : atI xs (-1) = some x := by
  have hne : xs ≠ [] := by intro e; rw [e] at h; cases h
  have hl : 0 < xs.length := List.length_pos_iff.mpr hne
  unfold atI ixN
  rw [if_neg (by omega), if_pos (by omega)]
  rw [List.getLast?_eq_getElem?] at h
  simp only [Option.bind_some]
  rw [← h]
  congr 1
  omega
/-- the places f in [free, free + n) with the value v before them -/
def starts (p : List Int) (v : Int) (free n : Nat) : List Nat := ((List.range n).filter fun k => decide (p.getD (free + k) 0 = v)).map (free + ·)
def natsI (xs : List Nat) : List Int := xs.map fun k : Nat => (k : Int)
def retG (p : List Int) (free last : Nat) : List Int → List (Nat × Nat)
  | [] => []
  | x :: xs =>
    if x = p.getD last 0 then retG p (last + 1) (last + 1) xs
    else match (starts p x free (last - free)).getLast? with
      | some s => (s, last) :: retG p (last + 1) (last + 1) xs
      | none => retG p free (last + 1) xs
def retZ (m : List Int) : List (Nat × Nat) := retG (0 :: m) 0 0 m
def pairsD (ps : List (Nat × Nat)) : List D := ps.map fun p => .tuple [.int (p.1 : Nat), .int (p.2 : Nat)]
theorem pairsD_app (a b : List (Nat × Nat)) : pairsD (a ++ b) = pairsD a ++ pairsD b := by simp [pairsD]
@[simp] theorem pairsD_len (a : List (Nat × Nat)) : (pairsD a).length = a.length := by simp [pairsD]
theorem starts_comp (m : List Int) (free last : Nat) (h1 : free ≤ last) (h2 : last < m.length) (F : D) (s5 s6 : Slot) :
    lcL [7] (.name 7) T1_returns_of C1_returns_of (rngD free (last - free)) [.fz (.list (intsD m)), .ow F, .fz (.int free), .fz (.list (intsD (0 :: m))), .fz (.int last), s5, s6, .un] =
      .ok (intsD (natsI (starts (0 :: m) (m.getD last 0) free (last - free)))) [.fz (.list (intsD m)), .ow F, .fz (.int free), .fz (.list (intsD (0 :: m))), .fz (.int last), s5, s6, .un] := by
  have := lcL_filterT (vs := [7]) (t := .name 7) (ft := T1_returns_of) (fe := C1_returns_of) (ρ := [.fz (.list (intsD m)), .ow F, .fz (.int free), .fz (.list (intsD (0 :: m))), .fz (.int last), s5, s6, .un])
    (fun k : Nat => .int ((free : Int) + (k : Nat))) (fun k => .int ((free : Int) + (k : Nat))) (fun k => decide ((0 :: m).getD (free + k) 0 = m.getD last 0)) (List.range (last - free)) fun k hk => by
      have hk := List.mem_range.mp hk
      have a1 : atI (intsD (0 :: m)) ((free : Int) + (k : Nat)) = some (.int ((0 :: m).getD (free + k) 0)) := by
        have := atI_ints (xs := 0 :: m) (i := free + k) (by simp; omega)
        simpa using this
      have a2 := atI_ints (xs := m) (i := last) h2
      exact ⟨[.fz (.list (intsD m)), .ow F, .fz (.int free), .fz (.list (intsD (0 :: m))), .fz (.int last), s5, s6, .fz (.int ((free : Int) + (k : Nat)))], by simp [wipeR],
        by simp [T1_returns_of, a1, a2, -List.getD_eq_getElem?_getD], by simp [C1_returns_of], by simp [backR, keepS]⟩
  unfold rngD
  rw [this]
  simp [starts, intsD, natsI, Function.comp_def]
theorem rng2_it {ρ : Rho} {i j : Nat} {a b : Int} (h1 : ρ[i]? = some (.fz (.int a))) (h2 : ρ[j]? = some (.fz (.int b))) (ha : -1000000 ≤ a ∧ a ≤ 1000000) (hb : -1000000 ≤ b ∧ b ≤ 1000000) :
    mItA rng2 (mCons (mVar i) (mCons (mVar j) mNil)) ρ = .ok (rngD a (b - a).toNat) ρ := by
  simp only [e_mItA, e_mCons, e_mVar, h1, h2, Res.bind_ok, e_mNil, e_rng2]
  rw [if_pos ⟨ha, hb⟩]
  rfl
theorem ret_turn (m : List Int) (free last : Nat) (h1 : free ≤ last) (h2 : last < m.length) (h3 : m.length ≤ 900000) (fs : List (Nat × Nat)) (hf : fs.length < 900000) (s6 : Slot) :
    ∃ t6, L1_returns_of [.fz (.list (intsD m)), .ow (.list (pairsD fs)), .fz (.int free), .fz (.list (intsD (0 :: m))), .fz (.int last), .fz (.int (m.getD last 0 - (0 :: m).getD last 0)), s6, .un] =
      .nx (if m.getD last 0 = (0 :: m).getD last 0 then [.fz (.list (intsD m)), .ow (.list (pairsD fs)), .fz (.int (last + 1 : Nat)), .fz (.list (intsD (0 :: m))), .fz (.int last), .fz (.int (m.getD last 0 - (0 :: m).getD last 0)), t6, .un]
        else match (starts (0 :: m) (m.getD last 0) free (last - free)).getLast? with
          | some s => [.fz (.list (intsD m)), .ow (.list (pairsD (fs ++ [(s, last)]))), .fz (.int (last + 1 : Nat)), .fz (.list (intsD (0 :: m))), .fz (.int last), .fz (.int (m.getD last 0 - (0 :: m).getD last 0)), t6, .un]
          | none => [.fz (.list (intsD m)), .ow (.list (pairsD fs)), .fz (.int free), .fz (.list (intsD (0 :: m))), .fz (.int last), .fz (.int (m.getD last 0 - (0 :: m).getD last 0)), t6, .un]) := by
  by_cases h : m.getD last 0 = (0 :: m).getD last 0
  · simp only [if_pos h]
    have z : m.getD last 0 - (0 :: m).getD last 0 = 0 := by omega
    rw [z]
    have q1 : -1000000 ≤ (last : Int) + 1 := by omega
    have q2 : (last : Int) + 1 ≤ 1000000 := by omega
    have q3 : -1000000 ≤ (last : Int) := by omega
    have q4 : (last : Int) ≤ 1000000 := by omega
    have q5 : ((last : Int) - ((last : Int) + 1)).toNat = 0 := by omega
    refine ⟨.fz (.list []), ?_⟩
    have r1 := rng2_it (ρ := [.fz (.list (intsD m)), .ow (.list (pairsD fs)), .fz (.int ((last : Int) + 1)), .fz (.list (intsD (0 :: m))), .fz (.int last), .fz (.int 0), s6, .un]) (i := 2) (j := 4) rfl rfl ⟨q1, q2⟩ ⟨q3, q4⟩
    rw [q5] at r1
    have r2 : rngD ((last : Int) + 1) 0 = [] := rfl
    rw [r2] at r1
    simp [L1_returns_of, r1, lcL, -e_mItA]
  · simp only [if_neg h]
    have z : ¬ m.getD last 0 - (0 :: m).getD last 0 = 0 := by omega
    generalize hs : m.getD last 0 - (0 :: m).getD last 0 = step at z
    have c := starts_comp m free last h1 h2 (.list (pairsD fs)) (.fz (.int step)) s6
    have q1 : -1000000 ≤ (free : Int) := by omega
    have q2 : (free : Int) ≤ 1000000 := by omega
    have q3 : -1000000 ≤ (last : Int) := by omega
    have q4 : (last : Int) ≤ 1000000 := by omega
    have q5 : ((last : Int) - (free : Int)).toNat = last - free := by omega
    have q6 : fs.length < 1000000 := by omega
    have q7 : last - free ≤ 1000000 := by omega
    refine ⟨.fz (.list (intsD (natsI (starts (0 :: m) (m.getD last 0) free (last - free))))), ?_⟩
    cases e : (starts (0 :: m) (m.getD last 0) free (last - free)).getLast? with
    | none =>
      have e2 := List.getLast?_eq_none_iff.mp e
      rw [e2] at c ⊢
      have c1 : intsD (natsI []) = [] := rfl
      rw [c1] at c ⊢
      simp [L1_returns_of, z, q1, q2, q3, q4, q5, q7, rngD_len, c]
    | some s =>
      have e2 : (starts (0 :: m) (m.getD last 0) free (last - free)) ≠ [] := by intro h; rw [h] at e; cases e
      have e3 : atI (intsD (natsI (starts (0 :: m) (m.getD last 0) free (last - free)))) (-1) = some (.int (s : Nat)) := atI_last (by
        simp only [intsD, natsI, List.getLast?_map, e, Option.map_some])
      have e4 : (intsD (natsI (starts (0 :: m) (m.getD last 0) free (last - free)))).isEmpty = false := by
        cases q : starts (0 :: m) (m.getD last 0) free (last - free) with
        | nil => exact absurd q e2
        | cons a b => rfl
      generalize intsD (natsI (starts (0 :: m) (m.getD last 0) free (last - free))) = ss at c e3 e4 ⊢
      have e5 : ss ≠ [] := by intro h; rw [h] at e4; cases e4
      simp [L1_returns_of, z, q1, q2, q3, q4, q5, q6, q7, rngD_len, c, e3, e4, e5, pairsD_app]
      rfl
theorem enum_steps (m : List Int) : enumD (intsD (stepsZ m)) = (List.range' 0 m.length).map fun i => .tuple [.int (i : Nat), .int (m.getD i 0 - (0 :: m).getD i 0)] := by
  apply List.ext_getElem
  · simp [enumD, stepsZ_len]
  · intro i h1 h2
    simp [enumD, stepsZ_len] at h1
    simp [enumD, stepsZ, intsD, List.getElem?_eq_getElem h1, List.getElem?_eq_getElem (show i < (0 :: m).length by simp; omega)]
theorem ret_loop (m : List Int) (h3 : m.length ≤ 900000) : ∀ (xs : List Int) (last free : Nat) (fs : List (Nat × Nat)) (s4 s5 s6 : Slot), m.drop last = xs → last + xs.length = m.length → free ≤ last → fs.length ≤ last →
    ∃ f' t4 t5 t6, forL (.tup [4, 5]) L1_returns_of ((List.range' last xs.length).map fun i => .tuple [.int (i : Nat), .int (m.getD i 0 - (0 :: m).getD i 0)]) [.fz (.list (intsD m)), .ow (.list (pairsD fs)), .fz (.int free), .fz (.list (intsD (0 :: m))), s4, s5, s6, .un] =
      .nx [.fz (.list (intsD m)), .ow (.list (pairsD (fs ++ retG (0 :: m) free last xs))), f', .fz (.list (intsD (0 :: m))), t4, t5, t6, .un]
  | [], last, free, fs, s4, s5, s6, _, _, _, _ => ⟨.fz (.int free), s4, s5, s6, by simp [forL, retG]⟩
  | x :: xs, last, free, fs, s4, s5, s6, hd, hl, hf, hn => by
    have hlt : last < m.length := by simp at hl; omega
    have hx : m.getD last 0 = x := by
      have : (m.drop last)[0]? = some x := by rw [hd]; rfl
      rw [List.getElem?_drop] at this
      simp at this
      simp [List.getD, this]
    have hd2 : m.drop (last + 1) = xs := by rw [← List.drop_drop, hd]; rfl
    have hl2 : last + 1 + xs.length = m.length := by simp at hl; omega
    obtain ⟨t6, e⟩ := ret_turn m free last hf hlt h3 fs (by omega) s6
    rw [List.length_cons, List.range'_succ, List.map_cons]
    simp only [forL, e_putTup, List.length_cons, List.length_nil, if_true, e_setAll1, e_setAll0, List.set_cons_succ, List.set_cons_zero]
    rw [e, hx]
    by_cases h : x = (0 :: m).getD last 0
    · rw [if_pos h]
      have := ret_loop m h3 xs (last + 1) (last + 1) fs (.fz (.int last)) (.fz (.int (x - (0 :: m).getD last 0))) t6 hd2 hl2 (by omega) (by omega)
      rw [retG, if_pos h]
      exact this
    · rw [if_neg h, retG, if_neg h]
      cases q : (starts (0 :: m) x free (last - free)).getLast? with
      | none => exact ret_loop m h3 xs (last + 1) free fs (.fz (.int last)) (.fz (.int (x - (0 :: m).getD last 0))) t6 hd2 hl2 (by omega) (by omega)
      | some st =>
        have := ret_loop m h3 xs (last + 1) (last + 1) (fs ++ [(st, last)]) (.fz (.int last)) (.fz (.int (x - (0 :: m).getD last 0))) t6 hd2 hl2 (by omega) (by simp; omega)
        rw [List.append_assoc] at this
        exact this
theorem returns_of_ok (m : List Int) (h : m.length ≤ 900000) : F_returns_of [] [.list (intsD m)] = .ok (.list (pairsD (retZ m))) [] := by
  obtain ⟨f', t4, t5, t6, e⟩ := ret_loop m h m 0 0 [] .un .un .un rfl (by simp) (by omega) (by simp)
  rw [← enum_steps] at e
  have e2 : ([] : List D) = pairsD [] := rfl
  have hl : 1 + m.length ≤ 1000000 := by omega
  have e3 : PyData.int 0 :: intsD m = intsD (0 :: m) := rfl
  simp only [F_returns_of, M_returns_of, e_runF, e_startR, e_mSeq]
  simp [steps_of_ok m h, hl, e3]
  rw [e2]
  simp only [List.nil_append] at e
  have e4 : ((0 : Nat) : Int) = 0 := rfl
  rw [e4] at e
  rw [e]
  simp [retZ]
theorem returns_fn (a b : List Int) (h : GoodT a) (k : GoodT b) (hl : b.length = a.length) : F_returns [] [.tuple (intsD a), .tuple (intsD b)] = .ok (.list (pairsD (retZ (shiftsZ a b)))) [] := by
  have := h.2.1
  simp [F_returns, M_returns, require_rows_ok a b h k hl, shifts_of_ok a b (by omega), returns_of_ok (shiftsZ a b) (by rw [shiftsZ_len]; omega)]
def fewestZ (m : List Int) : Int := (breaksZ m).length - (retZ m).length
theorem fewest_of_ok (m : List Int) (h : m.length ≤ 900000) : F_fewest_of [] [.list (intsD m)] = .ok (.int (fewestZ m)) [] := by
  simp [F_fewest_of, M_fewest_of, returns_of_ok m h, breaks_of_ok m h, fewestZ]
theorem fewest_fn (a b : List Int) (h : GoodT a) (k : GoodT b) (hl : b.length = a.length) : F_fewest [] [.tuple (intsD a), .tuple (intsD b)] = .ok (.int (fewestZ (shiftsZ a b))) [] := by
  have := h.2.1
  simp [F_fewest, M_fewest, require_rows_ok a b h k hl, shifts_of_ok a b (by omega), fewest_of_ok (shiftsZ a b) (by rw [shiftsZ_len]; omega)]
end Cap
set_option Elab.async false
set_option linter.all false
set_option maxRecDepth 100000
set_option maxHeartbeats 2000000
namespace Cap
open PySem PySem.Spec L2 Mi
theorem starts_some {p : List Int} {v : Int} {f n s : Nat} (h : (starts p v f n).getLast? = some s) : f ≤ s ∧ s < f + n ∧ p.getD s 0 = v := by
  have := List.mem_of_getLast? h
  simp only [starts, List.mem_map, List.mem_filter, List.mem_range, decide_eq_true_eq] at this
  obtain ⟨k, ⟨hk, hv⟩, rfl⟩ := this
  exact ⟨by omega, by omega, hv⟩
theorem starts_none {p : List Int} {v : Int} {f n : Nat} : (starts p v f n).getLast? = none ↔ ∀ s, f ≤ s → s < f + n → p.getD s 0 ≠ v := by
  rw [List.getLast?_eq_none_iff]
  simp only [starts, List.map_eq_nil_iff, List.filter_eq_nil_iff, List.mem_range, decide_eq_true_eq]
  constructor
  · intro h s h1 h2
    have := h (s - f) (by omega)
    rwa [show f + (s - f) = s by omega] at this
  · intro h k hk
    exact h (f + k) (by omega) (by omega)
theorem starts_mono {p : List Int} {v : Int} {fA fB l : Nat} (hf : fA ≤ fB) (hB : fB ≤ l) (h : (starts p v fA (l - fA)).getLast? = none) : (starts p v fB (l - fB)).getLast? = none := by
  rw [starts_none] at h ⊢
  intro s h1 h2
  exact h s (by omega) (by omega)
theorem ret_mono (p : List Int) : ∀ (xs : List Int) (last fA fB : Nat), fA ≤ fB → fB ≤ last → (retG p fB last xs).length ≤ (retG p fA last xs).length ∧ (retG p fA last xs).length ≤ (retG p fB last xs).length + 1
  | [], last, fA, fB, _, _ => by simp [retG]
  | x :: xs, last, fA, fB, h1, h2 => by
    rw [retG, retG]
    by_cases h : x = p.getD last 0
    · rw [if_pos h, if_pos h]; omega
    · rw [if_neg h, if_neg h]
      cases qB : (starts p x fB (last - fB)).getLast? with
      | none =>
        cases qA : (starts p x fA (last - fA)).getLast? with
        | none => exact ret_mono p xs (last + 1) fA fB h1 (by omega)
        | some s =>
          have := ret_mono p xs (last + 1) fB (last + 1) (by omega) (by omega)
          simp only [List.length_cons]
          omega
      | some s =>
        cases qA : (starts p x fA (last - fA)).getLast? with
        | none => rw [starts_mono h1 h2 qA] at qB; cases qB
        | some s2 => simp
theorem ret_seam (p : List Int) (n : Nat) : ∀ (xs : List Int) (last fA : Nat), fA ≤ n → n ≤ last → (retG p fA last xs).length = (retG p n last xs).length + 1 → ∃ q ∈ retG p fA last xs, q.1 < n ∧ n ≤ q.2
  | [], last, fA, _, _ => by simp [retG]
  | x :: xs, last, fA, h1, h2 => by
    rw [retG, retG]
    by_cases h : x = p.getD last 0
    · rw [if_pos h, if_pos h]; omega
    · rw [if_neg h, if_neg h]
      cases qB : (starts p x n (last - n)).getLast? with
      | none =>
        cases qA : (starts p x fA (last - fA)).getLast? with
        | none => exact ret_seam p n xs (last + 1) fA h1 (by omega)
        | some s =>
          intro _
          refine ⟨(s, last), by simp, ?_, h2⟩
          obtain ⟨a1, a2, a3⟩ := starts_some qA
          rw [starts_none] at qB
          rcases Nat.lt_or_ge s n with q | q
          · exact q
          · exact absurd a3 (qB s q (by omega))
      | some s =>
        cases qA : (starts p x fA (last - fA)).getLast? with
        | none => rw [starts_mono h1 h2 qA] at qB; cases qB
        | some s2 => simp
/-- the free place after a row -/
def retE (p : List Int) (free last : Nat) : List Int → Nat
  | [] => free
  | x :: xs =>
    if x = p.getD last 0 then retE p (last + 1) (last + 1) xs
    else match (starts p x free (last - free)).getLast? with
      | some _ => retE p (last + 1) (last + 1) xs
      | none => retE p free (last + 1) xs
theorem retE_le (p : List Int) : ∀ (xs : List Int) (last free : Nat), free ≤ last → retE p free last xs ≤ last + xs.length
  | [], last, free, h => by simp [retE]; omega
  | x :: xs, last, free, h => by
    rw [retE]
    split
    · have := retE_le p xs (last + 1) (last + 1) (by omega); simp; omega
    · split
      · have := retE_le p xs (last + 1) (last + 1) (by omega); simp; omega
      · have := retE_le p xs (last + 1) free (by omega); simp; omega
theorem ret_app (p : List Int) : ∀ (xs ys : List Int) (last free : Nat), retG p free last (xs ++ ys) = retG p free last xs ++ retG p (retE p free last xs) (last + xs.length) ys
  | [], ys, last, free => by simp [retG, retE]
  | x :: xs, ys, last, free => by
    rw [List.cons_append, retG, retG, retE]
    split
    · rw [ret_app p xs ys]; simp [Nat.add_comm, Nat.add_left_comm]
    · cases q : (starts p x free (last - free)).getLast? with
      | some z => simp only; rw [ret_app p xs ys]; simp [Nat.add_comm, Nat.add_left_comm]
      | none => simp only; rw [ret_app p xs ys]; simp [Nat.add_comm, Nat.add_left_comm]
theorem starts_congr {p q : List Int} {c v : Int} {n f l : Nat} (h : ∀ k, k < l → p.getD (k + n) 0 = q.getD k 0 + c) (hf : f ≤ l) : starts p (v + c) (f + n) (l + n - (f + n)) = (starts q v f (l - f)).map (· + n) := by
  unfold starts
  rw [List.map_map, show l + n - (f + n) = l - f by omega]
  have e : (List.range (l - f)).filter (fun k => decide (p.getD (f + n + k) 0 = v + c)) = (List.range (l - f)).filter (fun k => decide (q.getD (f + k) 0 = v)) := by
    apply List.filter_congr
    intro k hk
    have hk := List.mem_range.mp hk
    have := h (f + k) (by omega)
    rw [show f + n + k = f + k + n by omega, this]
    by_cases z : q.getD (f + k) 0 = v
    · simp [z]
    · have : ¬ q.getD (f + k) 0 + c = v + c := by omega
      simp only [z, this]
  rw [e]
  apply List.map_congr_left
  intro k _
  simp; omega
/-- a row moved by n places and by the amount c has the same returns, moved -/
theorem ret_shift {p q : List Int} {c : Int} {n : Nat} : ∀ (xs : List Int) (last free : Nat), free ≤ last → (∀ k, k < last + xs.length → p.getD (k + n) 0 = q.getD k 0 + c) →
    retG p (free + n) (last + n) (xs.map (· + c)) = (retG q free last xs).map fun r => (r.1 + n, r.2 + n)
  | [], last, free, _, _ => rfl
  | x :: xs, last, free, hf, h => by
    have h0 := h last (by simp)
    have h' : ∀ k, k < last + 1 + xs.length → p.getD (k + n) 0 = q.getD k 0 + c := fun k hk => h k (by simp; omega)
    rw [List.map_cons, retG, retG, h0, show last + n + 1 = last + 1 + n by omega]
    by_cases e : x = q.getD last 0
    · rw [if_pos e, if_pos (by omega)]
      exact ret_shift xs (last + 1) (last + 1) (by omega) h'
    · rw [if_neg e, if_neg (by omega), starts_congr (fun k hk => h k (by simp; omega)) hf]
      rw [List.getLast?_map]
      cases (starts q x free (last - free)).getLast? with
      | none => exact ret_shift xs (last + 1) free (by omega) h'
      | some s =>
        simp only [Option.map_some, List.map_cons]
        rw [ret_shift xs (last + 1) (last + 1) (by omega) h']
theorem getD_app_left {p q : List Int} {k : Nat} (h : k < p.length) : (p ++ q).getD k 0 = p.getD k 0 := by
  simp [List.getD, List.getElem?_append_left h]
theorem getD_app_right {p q : List Int} {k : Nat} : (p ++ q).getD (k + p.length) 0 = q.getD k 0 := by
  simp [List.getD, List.getElem?_append_right]
theorem getD_map_add (q : List Int) (c : Int) (k : Nat) (h : k < q.length) : (q.map (· + c)).getD k 0 = q.getD k 0 + c := by
  simp [List.getD, List.getElem?_eq_getElem h]
/-- a row behind another, its shifts added to the last one -/
def joinZ (own more : List Int) (c : Int) : List Int := own ++ more.map (· + c)
theorem ret_join (own more : List Int) (c : Int) (hc : own.getLast? = some c) : ∃ A, retZ (joinZ own more c) = retZ own ++ A ∧ (retZ more).length ≤ A.length ∧ A.length ≤ (retZ more).length + 1 ∧ (A.length = (retZ more).length + 1 → ∃ q ∈ A, q.1 < own.length ∧ own.length ≤ q.2) := by
  have hne : own ≠ [] := by intro e; rw [e] at hc; cases hc
  have hp : 0 < own.length := List.length_pos_iff.mpr hne
  unfold retZ joinZ
  rw [ret_app]
  have e1 : retG (0 :: (own ++ more.map (· + c))) 0 0 own = retG (0 :: own) 0 0 own := by
    have := ret_shift (p := 0 :: (own ++ more.map (· + c))) (q := 0 :: own) (c := 0) (n := 0) own 0 0 (by omega) (fun k hk => by
      rw [Nat.add_zero, Int.add_zero, ← List.cons_append, getD_app_left (by simp; omega)])
    simpa using this
  -- the second row, alone
  have e2 : ∀ k, k < 0 + more.length → (0 :: (own ++ more.map (· + c))).getD (k + own.length) 0 = (0 :: more).getD k 0 + c := by
    intro k hk
    cases k with
    | zero =>
      have z : (0 :: own).getD own.length 0 = c := by
        rw [List.getLast?_eq_getElem?] at hc
        obtain ⟨m, hm⟩ : ∃ m, own.length = m + 1 := ⟨own.length - 1, by omega⟩
        rw [hm] at hc ⊢
        simp at hc
        simp [List.getD, hc]
      rw [Nat.zero_add, ← List.cons_append, getD_app_left (by simp), z]
      simp
    | succ k =>
      have := getD_app_right (p := 0 :: own) (q := more.map (· + c)) (k := k)
      rw [List.cons_append, List.length_cons] at this
      rw [show k + 1 + own.length = k + (own.length + 1) by omega, this, getD_map_add more c k (by omega)]
      simp
  have e3 := ret_shift (p := 0 :: (own ++ more.map (· + c))) (q := 0 :: more) (c := c) (n := own.length) more 0 0 (by omega) e2
  have hf := retE_le (0 :: (own ++ more.map (· + c))) own 0 0 (by omega)
  rw [e1]
  refine ⟨_, rfl, ?_⟩
  rw [Nat.zero_add] at e3 hf ⊢
  have m1 := ret_mono (0 :: (own ++ more.map (· + c))) (more.map (· + c)) own.length _ own.length hf (by omega)
  have m2 := ret_seam (0 :: (own ++ more.map (· + c))) own.length (more.map (· + c)) own.length _ hf (by omega)
  have l3 : (retG (0 :: (own ++ more.map (· + c))) own.length own.length (more.map (· + c))).length = (retG (0 :: more) 0 0 more).length := by rw [e3]; simp
  rw [l3] at m1 m2
  exact ⟨m1.1, m1.2, m2⟩
theorem brk_app : ∀ (xs ys : List Int) (prev : Int) (i : Nat), brk prev i (xs ++ ys) = brk prev i xs ++ brk (xs.getLast?.getD prev) (i + xs.length) ys
  | [], ys, prev, i => by simp [brk]
  | x :: xs, ys, prev, i => by
    have e : ((x :: xs).getLast?.getD prev) = xs.getLast?.getD x := by
      cases xs with
      | nil => rfl
      | cons y ys => simp [List.getLast?_cons_cons, List.getLast?_cons]
    rw [List.cons_append, brk, brk, brk_app xs ys, e]
    split <;> simp [Nat.add_comm, Nat.add_left_comm]
theorem brk_shift : ∀ (xs : List Int) (prev c : Int) (i n : Nat), brk (prev + c) (i + n) (xs.map (· + c)) = (brk prev i xs).map fun z => z + (n : Int)
  | [], _, _, _, _ => rfl
  | x :: xs, prev, c, i, n => by
    have ih := brk_shift xs x c (i + 1) n
    rw [List.map_cons, brk, brk, show i + n + 1 = i + 1 + n by omega, ih]
    by_cases h : x = prev
    · have : ¬ x + c ≠ prev + c := by omega
      simp [h]
    · have : x + c ≠ prev + c := by omega
      simp [h, this]
theorem breaks_join (own more : List Int) (c : Int) (hc : own.getLast? = some c) : breaksZ (joinZ own more c) = breaksZ own ++ (breaksZ more).map fun z => z + (own.length : Int) := by
  have := brk_shift more 0 c 0 own.length
  rw [breaksZ_brk, breaksZ_brk, breaksZ_brk, joinZ, brk_app, hc, Nat.zero_add, ← this]
  simp
/-- each place twice -/
def dblZ : List Int → List Int
  | [] => []
  | x :: xs => x :: x :: dblZ xs
theorem dblZ_len : ∀ xs : List Int, (dblZ xs).length = 2 * xs.length
  | [] => rfl
  | x :: xs => by simp [dblZ, dblZ_len xs]; omega
theorem brk_dbl : ∀ (xs : List Int) (prev : Int) (i : Nat), brk prev (2 * i) (dblZ xs) = (brk prev i xs).map fun z => 2 * z
  | [], _, _ => rfl
  | x :: xs, prev, i => by
    have ih := brk_dbl xs x (i + 1)
    rw [dblZ, brk, brk, brk, show 2 * i + 1 + 1 = 2 * (i + 1) by omega, ih]
    by_cases h : x = prev <;> simp [h]
theorem breaks_dbl (m : List Int) : breaksZ (dblZ m) = (breaksZ m).map fun z => 2 * z := by
  rw [breaksZ_brk, breaksZ_brk]
  exact brk_dbl m 0 0
theorem getD_drop {p : List Int} {l : Nat} {x : Int} {r : List Int} (h : p.drop l = x :: r) : p.getD l 0 = x := by
  have : (p.drop l)[0]? = some x := by rw [h]; rfl
  rw [List.getElem?_drop] at this
  simp at this
  simp [List.getD, this]
theorem ret_dbl (p : List Int) : ∀ (xs : List Int) (l : Nat) (y : Int), p.drop l = y :: dblZ xs → retG p l l (dblZ xs) = []
  | [], _, _, _ => rfl
  | x :: xs, l, y, h => by
    have h1 : p.drop (l + 1) = x :: x :: dblZ xs := by rw [← List.drop_drop, h]; rfl
    have h2 : p.drop (l + 2) = x :: dblZ xs := by rw [← List.drop_drop, h]; rfl
    have g1 := getD_drop h1
    have ih := ret_dbl p xs (l + 2) x h2
    have s0 : ∀ v, (starts p v l (l - l)).getLast? = none := fun v => starts_none.mpr fun s a b => by omega
    rw [dblZ, retG, retG, retG, g1, if_pos rfl, if_pos rfl, s0]
    simp [ih]
theorem returns_dbl (m : List Int) : retZ (dblZ m) = [] := ret_dbl (0 :: dblZ m) m 0 0 rfl
theorem shifts_dbl : ∀ a b : List Int, a.length = b.length → shiftsZ (dblZ a) (dblZ b) = dblZ (shiftsZ a b)
  | [], [], _ => rfl
  | [], _ :: _, h => by simp at h
  | _ :: _, [], h => by simp at h
  | x :: a, y :: b, h => by
    have ih := shifts_dbl a b (by simpa using h)
    simp only [shiftsZ, dblZ, List.zip_cons_cons, List.map_cons] at ih ⊢
    rw [ih]
theorem dblZ_range (xs : List Int) : dblZ xs = (List.range (2 * xs.length)).map fun k => xs.getD (k / 2) 0 := by
  induction xs with
  | nil => rfl
  | cons x xs ih =>
    rw [dblZ, ih, List.length_cons, show 2 * (xs.length + 1) = 2 * xs.length + 1 + 1 by omega, List.range_succ_eq_map, List.range_succ_eq_map]
    simp only [List.map_cons, List.map_map]
    refine List.cons_eq_cons.mpr ⟨by simp, List.cons_eq_cons.mpr ⟨by simp, ?_⟩⟩
    apply List.map_congr_left
    intro k _
    simp [Function.comp_def, show (k + 1 + 1) / 2 = k / 2 + 1 by omega]
end Cap
set_option Elab.async false
set_option linter.all false
set_option maxRecDepth 100000
set_option maxHeartbeats 2000000
namespace Cap
open PySem PySem.Spec L2 Mi
theorem set_un {ρ : Rho} {v : Nat} (hv : ρ[v]? = some .un) : ρ.set v .un = ρ := by
  apply List.ext_getElem?
  intro i
  by_cases h : v = i
  · subst h
    have hl := (List.getElem?_eq_some_iff.mp hv).1
    rw [List.getElem?_set_self hl, hv]
  · rw [List.getElem?_set_ne h]
theorem getD_un {ρ : Rho} {v : Nat} (hv : ρ[v]? = some .un) : ρ.getD v .un = .un := by simp [List.getD, hv]
theorem lcL_1 {α : Type} {v : Nat} {fe : Rho → Res D} {ρ : Rho} (hv : ρ[v]? = some .un) (g f : α → D) (xs : List α) (h : ∀ x ∈ xs, fe (ρ.set v (.fz (g x))) = .ok (f x) (ρ.set v (.fz (g x)))) :
    lcL [v] (.name v) mYes fe (xs.map g) ρ = .ok (xs.map f) ρ :=
  lcL_mapT g f xs fun x hx => ⟨ρ.set v (.fz (g x)), by simp [wipeR], h x hx, by simp [backR, hv, keepS, set_un hv]⟩
theorem lcL_1f {α : Type} {v : Nat} {ft : Rho → Res Bool} {fe : Rho → Res D} {ρ : Rho} (hv : ρ[v]? = some .un) (g f : α → D) (p : α → Bool) (xs : List α) (h : ∀ x ∈ xs, ft (ρ.set v (.fz (g x))) = .ok (p x) (ρ.set v (.fz (g x))))
    (h2 : ∀ x ∈ xs, p x = true → fe (ρ.set v (.fz (g x))) = .ok (f x) (ρ.set v (.fz (g x)))) : lcL [v] (.name v) ft fe (xs.map g) ρ = .ok ((xs.filter p).map f) ρ :=
  lcL_filterT g f p xs fun x hx => ⟨ρ.set v (.fz (g x)), by simp [wipeR], h x hx, h2 x hx, by simp [backR, hv, keepS, set_un hv]⟩
theorem set_set_ne {ρ : Rho} {v w : Nat} (h : v ≠ w) (hv : ρ[v]? = some .un) (hw : ρ[w]? = some .un) (a b : Slot) : (((ρ.set v a).set w b).set w .un).set v .un = ρ := by
  rw [List.set_set, List.set_comm _ _ h, List.set_set, set_un hw, set_un hv]
theorem lcL_2f {α : Type} {v w : Nat} {ft : Rho → Res Bool} {fe : Rho → Res D} {ρ : Rho} (hvw : v ≠ w) (hv : ρ[v]? = some .un) (hw : ρ[w]? = some .un) (a b f : α → D) (p : α → Bool) (xs : List α) (h : ∀ x ∈ xs, ft ((ρ.set v (.fz (a x))).set w (.fz (b x))) = .ok (p x) ((ρ.set v (.fz (a x))).set w (.fz (b x))))
    (h2 : ∀ x ∈ xs, p x = true → fe ((ρ.set v (.fz (a x))).set w (.fz (b x))) = .ok (f x) ((ρ.set v (.fz (a x))).set w (.fz (b x)))) : lcL [v, w] (.tup [v, w]) ft fe (xs.map fun x => .tuple [a x, b x]) ρ = .ok ((xs.filter p).map f) ρ :=
  lcL_filterT (fun x => .tuple [a x, b x]) f p xs fun x hx => ⟨(ρ.set v (.fz (a x))).set w (.fz (b x)), by
    simp only [wipeR, e_putTup, List.length_cons, List.length_nil, if_true, e_setAll1, e_setAll0, set_un hw, set_un hv], h x hx, h2 x hx, by
    simp only [backR, getD_un hv, getD_un hw, keepS]
    exact set_set_ne hvw hv hw _ _⟩
theorem lcL_2 {α : Type} {v w : Nat} {fe : Rho → Res D} {ρ : Rho} (hvw : v ≠ w) (hv : ρ[v]? = some .un) (hw : ρ[w]? = some .un) (a b f : α → D) (xs : List α)
    (h2 : ∀ x ∈ xs, fe ((ρ.set v (.fz (a x))).set w (.fz (b x))) = .ok (f x) ((ρ.set v (.fz (a x))).set w (.fz (b x)))) : lcL [v, w] (.tup [v, w]) mYes fe (xs.map fun x => .tuple [a x, b x]) ρ = .ok (xs.map f) ρ := by
  have := lcL_2f hvw hv hw a b f (fun _ => true) xs (fun x _ => e_mYes) (fun x hx _ => h2 x hx)
  rw [this, List.filter_eq_self.mpr (fun _ _ => rfl)]
theorem set_get_ne {ρ : Rho} {v i : Nat} {s : Slot} (h : v ≠ i) : (ρ.set v s)[i]? = ρ[i]? := List.getElem?_set_ne h
theorem set_get_eq {ρ : Rho} {v : Nat} {s t : Slot} (hv : ρ[v]? = some t) : (ρ.set v s)[v]? = some s := List.getElem?_set_self (List.getElem?_eq_some_iff.mp hv).1
theorem rngD_range' (n : Nat) : rngD 0 n = (List.range' 0 n).map fun k => .int ((0 : Int) + (k : Nat)) := by
  unfold rngD
  rw [List.range_eq_range']
/-- a loop over a range, its state kept in shape -/
theorem for_range' {v : Nat} {f : Rho → SR} (B : Nat) (I : Rho → Prop) (h : ∀ (k : Nat) ρ, k ≤ B → I ρ → ∃ ρ2, f (ρ.set v (.fz (.int k))) = .nx ρ2 ∧ I ρ2) : ∀ (m j : Nat) (ρ : Rho), j + m ≤ B → I ρ →
    ∃ ρ', forL (.name v) f ((List.range' j m).map fun k => .int ((0 : Int) + (k : Nat))) ρ = .nx ρ' ∧ I ρ'
  | 0, j, ρ, _, hi => ⟨ρ, rfl, hi⟩
  | m + 1, j, ρ, hj, hi => by
    obtain ⟨ρ2, e, hi2⟩ := h j ρ (by omega) hi
    obtain ⟨ρ', e2, hi3⟩ := for_range' B I h m (j + 1) ρ2 (by omega) hi2
    refine ⟨ρ', ?_, hi3⟩
    rw [List.range'_succ, List.map_cons]
    simp only [forL, e_putNm, Int.zero_add]
    rw [e]
    simpa using e2
theorem for_range {v : Nat} {f : Rho → SR} (I : Rho → Prop) (h : ∀ (k : Nat) ρ, k ≤ 1000000 → I ρ → ∃ ρ2, f (ρ.set v (.fz (.int k))) = .nx ρ2 ∧ I ρ2) : ∀ (m j : Nat) (ρ : Rho), j + m ≤ 1000000 → I ρ →
    ∃ ρ', forL (.name v) f ((List.range' j m).map fun k => .int ((0 : Int) + (k : Nat))) ρ = .nx ρ' ∧ I ρ'
  | 0, j, ρ, _, hi => ⟨ρ, rfl, hi⟩
  | m + 1, j, ρ, hj, hi => by
    obtain ⟨ρ2, e, hi2⟩ := h j ρ (by omega) hi
    obtain ⟨ρ', e2, hi3⟩ := for_range I h m (j + 1) ρ2 (by omega) hi2
    refine ⟨ρ', ?_, hi3⟩
    rw [List.range'_succ, List.map_cons]
    simp only [forL, e_putNm, Int.zero_add]
    rw [e]
    simpa using e2
end Cap
set_option Elab.async false
set_option linter.all false
set_option maxRecDepth 100000
set_option maxHeartbeats 2000000
namespace Cap
open PySem PySem.Spec L2 Mi
/-- v added at the places p <= i < e -/
def updZ (ts : List Int) (p e : Nat) (v : Int) : List Int := (List.range ts.length).map fun i => if p ≤ i ∧ i < e then ts.getD i 0 + v else ts.getD i 0
theorem updZ_len (ts : List Int) (p e : Nat) (v : Int) : (updZ ts p e v).length = ts.length := by simp [updZ]
theorem updZ_get {ts : List Int} {p e i : Nat} {v : Int} (h : i < ts.length) : (updZ ts p e v).getD i 0 = if p ≤ i ∧ i < e then ts.getD i 0 + v else ts.getD i 0 := by
  simp [updZ, List.getD, h]
theorem ext_getD {a b : List Int} (hl : a.length = b.length) (h : ∀ i, i < a.length → a.getD i 0 = b.getD i 0) : a = b := by
  apply List.ext_getElem hl
  intro i h1 h2
  have := h i h1
  simpa [List.getD, List.getElem?_eq_getElem h1, List.getElem?_eq_getElem h2] using this
theorem updZ_none (ts : List Int) (p : Nat) (v : Int) : updZ ts p p v = ts := ext_getD (updZ_len _ _ _ _) fun i hi => by
  rw [updZ_len] at hi
  rw [updZ_get hi, if_neg (by omega)]
theorem updZ_set (ts : List Int) (p e : Nat) (v : Int) (h : p ≤ e) (he : e < ts.length) : (updZ ts p e v).set e (ts.getD e 0 + v) = updZ ts p (e + 1) v := by
  apply ext_getD
  · simp [updZ_len]
  · intro i hi
    simp [updZ_len] at hi
    rw [updZ_get hi]
    by_cases q : e = i
    · subst q
      rw [if_pos (by omega)]
      simp [List.getD, List.getElem?_set_self, updZ_len, he]
    · have : ((updZ ts p e v).set e (ts.getD e 0 + v)).getD i 0 = (updZ ts p e v).getD i 0 := by
        simp [List.getD, List.getElem?_set_ne q]
      rw [this, updZ_get hi]
      by_cases r : p ≤ i ∧ i < e
      · rw [if_pos r, if_pos (by omega)]
      · rw [if_neg r, if_neg (by omega)]
def Cmd.end (c : Cmd) (n : Nat) : Nat := if c.one then c.p.toNat + 1 else n
def afterZ (ts : List Int) (c : Cmd) : List Int := updZ ts c.p.toNat (c.end ts.length) c.v
theorem afterZ_len (ts : List Int) (c : Cmd) : (afterZ ts c).length = ts.length := updZ_len _ _ _ _
theorem intsD_set (xs : List Int) (i : Nat) (v : Int) : (intsD xs).set i (.int v) = intsD (xs.set i v) := by simp [intsD, List.map_set]
theorem eq_word (b : Bool) : eqD (.str (word b)) (.str "one") = some (.bool b) := by cases b <;> rfl
theorem after_loop (ts : List Int) (c : Cmd) (h0 : 0 ≤ c.p) : ∀ (k e : Nat), c.p.toNat ≤ e → e + k ≤ ts.length → ∀ s0 s3 s4 : Slot, ∃ t4, forL (.name 4) L1__law_after ((List.range' e k).map fun i => .int (i : Nat)) [s0, .fz c.d, .ow (.list (intsD (updZ ts c.p.toNat e c.v))), s3, s4] =
      .nx [s0, .fz c.d, .ow (.list (intsD (updZ ts c.p.toNat (e + k) c.v))), s3, t4]
  | 0, e, _, _, s0, s3, s4 => ⟨s4, rfl⟩
  | k + 1, e, h1, h2, s0, s3, s4 => by
    obtain ⟨t4, q⟩ := after_loop ts c h0 k (e + 1) (by omega) (by omega) s0 s3 (.fz (.int e))
    refine ⟨t4, ?_⟩
    rw [List.range'_succ, List.map_cons]
    simp only [forL, e_putNm, List.set_cons_succ, List.set_cons_zero]
    have he : e < ts.length := by omega
    have a1 := atI_ints (xs := updZ ts c.p.toNat e c.v) (i := e) (by rw [updZ_len]; exact he)
    rw [updZ_get he, if_neg (by omega)] at a1
    have a2 : ixN (intsD (updZ ts c.p.toNat e c.v)).length (e : Int) = some e := ixN_nat (by rw [intsD_len, updZ_len]; exact he)
    have s1 : L1__law_after [s0, .fz c.d, .ow (.list (intsD (updZ ts c.p.toNat e c.v))), s3, .fz (.int e)] = .nx [s0, .fz c.d, .ow (.list (intsD (updZ ts c.p.toNat (e + 1) c.v))), s3, .fz (.int e)] := by
      rw [← updZ_set ts c.p.toNat e c.v h1 he, ← intsD_set]
      simp only [L1__law_after, e_mSetIx, e_mBin, e_mOwnL, e_ownL, List.getElem?_cons_succ, e_get0, e_mVar, Res.bind_ok, Res.toS_ok, e_ixL, a1, ofOpt_some, Cmd.d, e_ixT, atI2, e_mC, e_add, e_asI, a2, List.set_cons_succ, List.set_cons_zero]
    rw [show e + (k + 1) = e + 1 + k by omega, s1]
    exact q
theorem rngD_nat (a n : Nat) : rngD (a : Int) n = (List.range' a n).map fun i => .int (i : Nat) := by
  apply List.ext_getElem
  · simp [rngD]
  · intro i h1 h2
    simp [rngD]
theorem law_after_ok (ts : List Int) (c : Cmd) (h0 : 0 ≤ c.p) (h1 : c.p < ts.length) (hl : ts.length ≤ 1000000) : F__law_after [] [.tuple (intsD ts), c.d] = .ok (.tuple (intsD (afterZ ts c))) [] := by
  have he : c.p.toNat ≤ c.end ts.length ∧ c.end ts.length ≤ ts.length := by unfold Cmd.end; split <;> omega
  obtain ⟨t4, q⟩ := after_loop ts c h0 (c.end ts.length - c.p.toNat) c.p.toNat (by omega) (by omega) (.fz (.tuple (intsD ts))) (.fz (.int (c.end ts.length : Nat))) .un
  rw [updZ_none, show c.p.toNat + (c.end ts.length - c.p.toNat) = c.end ts.length by omega] at q
  have r1 : rng2 [.int c.p, .int (c.end ts.length : Nat)] = some ((List.range' c.p.toNat (c.end ts.length - c.p.toNat)).map fun i => .int (i : Nat)) := by
    rw [e_rng2, if_pos (by omega), ← rngD_nat, show ((c.p.toNat : Nat) : Int) = c.p by omega]
    congr 2
    omega
  have e1 : mIf (mTest (mBin eqD (mBin ixD (mVar 1) (mC (.int 0))) (mC (.str "one")))) (mBin addD (mBin ixD (mVar 1) (mC (.int 1))) (mC (.int 1))) (mApp lenD (mCons (mVar 0) mNil)) [.fz (.tuple (intsD ts)), .fz c.d, .ow (.list (intsD ts)), .un, .un] =
      .ok (.int (c.end ts.length : Nat)) [.fz (.tuple (intsD ts)), .fz c.d, .ow (.list (intsD ts)), .un, .un] := by
    obtain ⟨o, p, v⟩ := c
    cases o
    · simp [Cmd.d, eq_word, Cmd.end]
    · have : ((p.toNat : Int)) = p := by have : 0 ≤ p := h0; omega
      simp [Cmd.d, eq_word, Cmd.end, this]
  have e2 : (mBin ixD (mVar 1) (mC (.int 1))) [.fz (.tuple (intsD ts)), .fz c.d, .ow (.list (intsD ts)), .fz (.int (c.end ts.length : Nat)), .un] = .ok (.int c.p) [.fz (.tuple (intsD ts)), .fz c.d, .ow (.list (intsD ts)), .fz (.int (c.end ts.length : Nat)), .un] := by
    simp [Cmd.d]
  simp only [F__law_after, M__law_after, e_runF, e_startR, e_mSeq, e_mSetF, e_mApp, e_mCons, e_mVar, List.map_nil, List.map_cons, List.nil_append, List.cons_append, e_get0, Res.bind_ok, e_mNil, e_listT, ofOpt_some, Res.toS_ok, List.length_nil, List.length_cons, Nat.zero_add, Nat.reduceAdd, Nat.reduceSub, List.replicate, List.set_cons_succ, List.set_cons_zero, e_mSetP, e1, e_mFor, e_mItA, e2, List.getElem?_cons_succ, r1, q, e_mRet, e_mOwn1, e_ownL, e_tuple1, e_tupleL, e_outs, List.take]
  rfl
theorem cmd_plain (c : Cmd) : c.d.plain = true := by simp [Cmd.d, PyData.plain, PyData.plainAll]
theorem cmd_depth (c : Cmd) : c.d.depth = 1 := by simp [Cmd.d, PyData.depth, PyData.depthAll]
theorem cmds_plain : ∀ cs : List Cmd, PyData.plainAll (cmdsD cs) = true
  | [] => by simp [cmdsD, PyData.plainAll]
  | c :: cs => by
    have := cmds_plain cs
    simp only [cmdsD, List.map_cons, PyData.plainAll, cmd_plain] at this ⊢
    simpa using this
theorem cmds_depth : ∀ cs : List Cmd, PyData.depthAll (cmdsD cs) ≤ 1
  | [] => by simp [cmdsD, PyData.depthAll]
  | c :: cs => by
    have := cmds_depth cs
    simp only [cmdsD, List.map_cons, PyData.depthAll, cmd_depth] at this ⊢
    omega
theorem cmd_eqv (c : Cmd) : PyData.eqv c.d c.d = true := by
  have w : (word c.one == word c.one) = true := by cases c.one <;> rfl
  simp [Cmd.d, PyData.eqv, PyData.eqvAll, w]
theorem cmds_eqv : ∀ cs : List Cmd, PyData.eqvAll (cmdsD cs) (cmdsD cs) = true
  | [] => by simp [cmdsD, PyData.eqvAll]
  | c :: cs => by
    have := cmds_eqv cs
    simp only [cmdsD, List.map_cons, PyData.eqvAll, cmd_eqv] at this ⊢
    simpa using this
theorem ne_cmds (cs : List Cmd) : neD (.list (cmdsD cs)) (.list (cmdsD cs)) = some (.bool false) := by
  have := cmds_depth cs
  rw [neD_of (by simp [PyData.plain, cmds_plain]) (by simp [PyData.plain, cmds_plain]) (by simp [PyData.depth]; omega)]
  simp [PyData.eqv, cmds_eqv]
theorem eq_cmds (cs : List Cmd) : eqD (.list (cmdsD cs)) (.list (cmdsD cs)) = some (.bool true) := by
  have := cmds_depth cs
  rw [eqD_of (by simp [PyData.plain, cmds_plain]) (by simp [PyData.plain, cmds_plain]) (by simp [PyData.depth]; omega)]
  simp [PyData.eqv, cmds_eqv]
theorem notin_cmds (c : Cmd) (cs : List Cmd) (h : c ∈ cs) : inD true c.d (.list (cmdsD cs)) = some (.bool false) := by
  have hd := cmds_depth cs
  have ok : inOk c.d (cmdsD cs) = true := by
    unfold inOk
    rw [cmd_plain, cmds_plain, cmd_depth]
    simp; omega
  have hm : ((cmdsD cs).any fun y => PyData.eqv y c.d) = true := by
    rw [List.any_eq_true]
    exact ⟨c.d, List.mem_map.mpr ⟨c, h, rfl⟩, cmd_eqv c⟩
  simp [inD, ok, hm]
end Cap
set_option Elab.async false
set_option linter.all false
set_option maxRecDepth 100000
set_option maxHeartbeats 2000000
namespace Cap
open PySem PySem.Spec L2 Mi
/-- the commands that the law finds by trying one place -/
def dueAt (o : Bool) (a b : List Int) (p : Nat) : List Cmd :=
  if b.getD p 0 - a.getD p 0 ≠ 0 ∧ -4000000000000 ≤ b.getD p 0 - a.getD p 0 ∧ b.getD p 0 - a.getD p 0 ≤ 4000000000000 ∧ afterZ a ⟨o, p, b.getD p 0 - a.getD p 0⟩ = b then [⟨o, p, b.getD p 0 - a.getD p 0⟩] else []
def dueZ (a b : List Int) : List Cmd := (List.range a.length).flatMap (dueAt false a b) ++ (List.range a.length).flatMap (dueAt true a b)
/-- v from place k on -/
def Fsh (m : List Int) (k : Nat) : Prop := k < m.length ∧ m.getD k 0 ≠ 0 ∧ ∀ i, i < m.length → m.getD i 0 = if k ≤ i then m.getD k 0 else 0
/-- v at place k alone -/
def Osh (m : List Int) (k : Nat) : Prop := k < m.length ∧ m.getD k 0 ≠ 0 ∧ ∀ i, i < m.length → m.getD i 0 = if i = k then m.getD k 0 else 0
theorem shifts_get {a b : List Int} (hl : b.length = a.length) {i : Nat} (hi : i < a.length) : (shiftsZ a b).getD i 0 = b.getD i 0 - a.getD i 0 := by
  have : i < b.length := by omega
  have z : (a.zip b)[i]? = some (a[i], b[i]) := by
    rw [List.getElem?_eq_getElem (by simp; omega)]
    simp
  simp [shiftsZ, List.getD, z, hi, this]
theorem after_iff (o : Bool) {a b : List Int} (hl : b.length = a.length) {p : Nat} (hp : p < a.length) (v : Int) : afterZ a ⟨o, p, v⟩ = b ↔ ∀ i, i < a.length → (shiftsZ a b).getD i 0 = if p ≤ i ∧ (o = true → i = p) then v else 0 := by
  have g : ∀ i, i < a.length → (afterZ a ⟨o, p, v⟩).getD i 0 = a.getD i 0 + if p ≤ i ∧ (o = true → i = p) then v else 0 := fun i hi => by
    unfold afterZ
    rw [updZ_get hi]
    cases o
    · simp only [Cmd.end, Int.toNat_natCast]
      by_cases q : p ≤ i
      · simp [q, hi]
      · simp [q]
    · simp only [Cmd.end, Int.toNat_natCast, if_true]
      by_cases q : i = p
      · subst q; simp
      · have : ¬ (p ≤ i ∧ i < p + 1) := by omega
        simp [q, this]
  constructor
  · intro h i hi
    have := g i hi
    rw [h] at this
    rw [shifts_get hl hi, this]
    omega
  · intro h
    apply ext_getD
    · rw [afterZ_len]; omega
    · intro i hi
      rw [afterZ_len] at hi
      rw [g i hi, ← h i hi, shifts_get hl hi]
      omega
theorem if_cg {α : Type} {p q : Prop} [Decidable p] [Decidable q] {x y : α} (h : p ↔ q) : (if p then x else y) = if q then x else y := by
  by_cases hp : p
  · rw [if_pos hp, if_pos (h.mp hp)]
  · rw [if_neg hp, if_neg fun hq => hp (h.mpr hq)]
theorem dueAt_F {a b : List Int} (hl : b.length = a.length) (hb : In (-4000000000000) 4000000000000 (shiftsZ a b)) {p : Nat} (hp : p < a.length) : (Fsh (shiftsZ a b) p → dueAt false a b p = [⟨false, p, (shiftsZ a b).getD p 0⟩]) ∧ (¬ Fsh (shiftsZ a b) p → dueAt false a b p = []) := by
  have sl : (shiftsZ a b).length = a.length := by rw [shiftsZ_len]; omega
  have e := shifts_get hl hp
  have bd : -4000000000000 ≤ (shiftsZ a b).getD p 0 ∧ (shiftsZ a b).getD p 0 ≤ 4000000000000 := hb _ (by
    rw [List.getD, List.getElem?_eq_getElem (by omega)]; simp)
  have ai := after_iff false hl hp ((shiftsZ a b).getD p 0)
  unfold dueAt
  rw [← e]
  constructor
  · intro h
    rw [if_pos ⟨h.2.1, bd.1, bd.2, ai.mpr fun i hi => by rw [h.2.2 i (by omega)]; simp⟩]
  · intro h
    rw [if_neg]
    rintro ⟨h1, _, _, h2⟩
    exact h ⟨by omega, h1, fun i hi => by rw [ai.mp h2 i (by omega)]; simp⟩
theorem dueAt_O {a b : List Int} (hl : b.length = a.length) (hb : In (-4000000000000) 4000000000000 (shiftsZ a b)) {p : Nat} (hp : p < a.length) : (Osh (shiftsZ a b) p → dueAt true a b p = [⟨true, p, (shiftsZ a b).getD p 0⟩]) ∧ (¬ Osh (shiftsZ a b) p → dueAt true a b p = []) := by
  have sl : (shiftsZ a b).length = a.length := by rw [shiftsZ_len]; omega
  have e := shifts_get hl hp
  have bd : -4000000000000 ≤ (shiftsZ a b).getD p 0 ∧ (shiftsZ a b).getD p 0 ≤ 4000000000000 := hb _ (by
    rw [List.getD, List.getElem?_eq_getElem (by omega)]; simp)
  have ai := after_iff true hl hp ((shiftsZ a b).getD p 0)
  have cv : ∀ i : Nat, (p ≤ i ∧ (true = true → i = p)) ↔ i = p := fun i => by exact ⟨fun h => h.2 rfl, fun h => ⟨by omega, fun _ => h⟩⟩
  have ai : afterZ a ⟨true, p, (shiftsZ a b).getD p 0⟩ = b ↔ ∀ i, i < a.length → (shiftsZ a b).getD i 0 = if i = p then (shiftsZ a b).getD p 0 else 0 := ai.trans ⟨fun h i hi => by rw [h i hi, if_cg (cv i)], fun h i hi => by rw [h i hi, if_cg (cv i)]⟩
  unfold dueAt
  rw [← e]
  constructor
  · intro h
    rw [if_pos ⟨h.2.1, bd.1, bd.2, ai.mpr fun i hi => h.2.2 i (by omega)⟩]
  · intro h
    rw [if_neg]
    rintro ⟨h1, _, _, h2⟩
    exact h ⟨by omega, h1, fun i hi => ai.mp h2 i (by omega)⟩
theorem flat_none {α : Type} {f : Nat → List α} {n : Nat} (h : ∀ i, i < n → f i = []) : (List.range n).flatMap f = [] := by
  rw [List.flatMap_eq_nil_iff]
  exact fun i hi => h i (List.mem_range.mp hi)
theorem flat_one {α : Type} {f : Nat → List α} {k : Nat} : ∀ {n : Nat}, k < n → (∀ i, i < n → i ≠ k → f i = []) → (List.range n).flatMap f = f k
  | 0, hk, _ => by omega
  | n + 1, hk, h => by
    rw [List.range_succ, List.flatMap_append]
    simp only [List.flatMap_cons, List.flatMap_nil, List.append_nil]
    by_cases q : k = n
    · subst q
      rw [flat_none fun i hi => h i (by omega) (by omega)]
      rfl
    · rw [flat_one (by omega) fun i hi hne => h i (by omega) hne, h n (by omega) (fun e => q e.symm)]
      simp
theorem F_uniq {m : List Int} {j k : Nat} (h : Fsh m j) (g : Fsh m k) : j = k := by
  rcases Nat.lt_trichotomy j k with q | q | q
  · have := g.2.2 j h.1
    rw [if_neg (by omega)] at this
    exact absurd this h.2.1
  · exact q
  · have := h.2.2 k g.1
    rw [if_neg (by omega)] at this
    exact absurd this g.2.1
theorem O_uniq {m : List Int} {j k : Nat} (h : Osh m j) (g : Osh m k) : j = k := by
  by_cases q : j = k
  · exact q
  · have := g.2.2 j h.1
    rw [if_neg q] at this
    exact absurd this h.2.1
open Classical in
/-- the single command of each kind, if there is one -/
noncomputable def oneF (m : List Int) : List Cmd := if h : ∃ k, Fsh m k then [⟨false, h.choose, m.getD h.choose 0⟩] else []
open Classical in
noncomputable def oneO (m : List Int) : List Cmd := if h : ∃ k, Osh m k then [⟨true, h.choose, m.getD h.choose 0⟩] else []
theorem oneF_some {m : List Int} {k : Nat} (h : Fsh m k) : oneF m = [⟨false, k, m.getD k 0⟩] := by
  unfold oneF
  have e : ∃ k, Fsh m k := ⟨k, h⟩
  rw [dif_pos e, F_uniq e.choose_spec h]
theorem oneF_none {m : List Int} (h : ∀ k, ¬ Fsh m k) : oneF m = [] := by
  unfold oneF
  rw [dif_neg (fun ⟨k, hk⟩ => h k hk)]
theorem oneO_some {m : List Int} {k : Nat} (h : Osh m k) : oneO m = [⟨true, k, m.getD k 0⟩] := by
  unfold oneO
  have e : ∃ k, Osh m k := ⟨k, h⟩
  rw [dif_pos e, O_uniq e.choose_spec h]
theorem oneO_none {m : List Int} (h : ∀ k, ¬ Osh m k) : oneO m = [] := by
  unfold oneO
  rw [dif_neg (fun ⟨k, hk⟩ => h k hk)]
theorem due_one {a b : List Int} (hl : b.length = a.length) (hb : In (-4000000000000) 4000000000000 (shiftsZ a b)) : dueZ a b = oneF (shiftsZ a b) ++ oneO (shiftsZ a b) := by
  have sl : (shiftsZ a b).length = a.length := by rw [shiftsZ_len]; omega
  unfold dueZ
  congr 1
  · by_cases h : ∃ k, Fsh (shiftsZ a b) k
    · obtain ⟨k, hk⟩ := h
      have hka : k < a.length := by have := hk.1; omega
      rw [flat_one hka fun i hi hne => (dueAt_F hl hb hi).2 fun hi' => hne (F_uniq hi' hk), (dueAt_F hl hb hka).1 hk, oneF_some hk]
    · rw [flat_none fun i hi => (dueAt_F hl hb hi).2 fun hi' => h ⟨i, hi'⟩, oneF_none fun k hk => h ⟨k, hk⟩]
  · by_cases h : ∃ k, Osh (shiftsZ a b) k
    · obtain ⟨k, hk⟩ := h
      have hka : k < a.length := by have := hk.1; omega
      rw [flat_one hka fun i hi hne => (dueAt_O hl hb hi).2 fun hi' => hne (O_uniq hi' hk), (dueAt_O hl hb hka).1 hk, oneO_some hk]
    · rw [flat_none fun i hi => (dueAt_O hl hb hi).2 fun hi' => h ⟨i, hi'⟩, oneO_none fun k hk => h ⟨k, hk⟩]
end Cap
set_option Elab.async false
set_option linter.all false
set_option maxRecDepth 100000
set_option maxHeartbeats 2000000
namespace Cap
open PySem PySem.Spec L2 Mi
def breaksN (m : List Int) : List Nat := (List.range m.length).filter fun k => decide (m.getD k 0 ≠ (0 :: m).getD k 0)
theorem zipIdx_range (m : List Int) : m.zipIdx = (List.range m.length).map fun k => (m.getD k 0, k) := by
  apply List.ext_getElem
  · simp
  · intro i h1 h2
    simp at h1
    simp [h1]
theorem breaksZ_N (m : List Int) : breaksZ m = natsI (breaksN m) := by
  rw [breaksZ_brk, ← law_brk (0 :: m) m 0 0 rfl, zipIdx_range, List.filter_map, List.map_map, breaksN, natsI]
  rfl
theorem filt_none {f : Nat → Bool} {n : Nat} (h : ∀ i, i < n → f i = false) : (List.range n).filter f = [] := by
  rw [List.filter_eq_nil_iff]
  intro i hi
  rw [h i (List.mem_range.mp hi)]
  simp
theorem filt_one {f : Nat → Bool} {k : Nat} : ∀ {n : Nat}, k < n → (∀ i, i < n → f i = decide (i = k)) → (List.range n).filter f = [k]
  | 0, hk, _ => by omega
  | n + 1, hk, h => by
    rw [List.range_succ, List.filter_append]
    by_cases q : k = n
    · subst q
      rw [filt_none fun i hi => by rw [h i (by omega)]; simp; omega]
      simp [h k (by omega)]
    · rw [filt_one (n := n) (by omega) fun i hi => h i (by omega)]
      have : f n = false := by rw [h n (by omega)]; simp; omega
      simp [this]
theorem filt_two {f : Nat → Bool} {k : Nat} : ∀ {n : Nat}, k + 1 < n → (∀ i, i < n → f i = decide (i = k ∨ i = k + 1)) → (List.range n).filter f = [k, k + 1]
  | 0, hk, _ => by omega
  | n + 1, hk, h => by
    rw [List.range_succ, List.filter_append]
    by_cases q : k + 1 = n
    · rw [filt_one (k := k) (n := n) (by omega) fun i hi => by
        rw [h i (by omega)]
        have : ¬ i = k + 1 := by omega
        simp [this]]
      have : f n = true := by rw [h n (by omega)]; simp; omega
      subst q
      simp [this]
    · rw [filt_two (n := n) (by omega) fun i hi => h i (by omega)]
      have : f n = false := by rw [h n (by omega)]; simp; omega
      simp [this]
theorem prev0 (m : List Int) : (0 :: m).getD 0 0 = 0 := rfl
theorem prevS (m : List Int) (i : Nat) : (0 :: m).getD (i + 1) 0 = m.getD i 0 := rfl
theorem breaks_F {m : List Int} {k : Nat} (h : Fsh m k) : breaksN m = [k] := by
  obtain ⟨h1, h2, h3⟩ := h
  refine filt_one h1 fun i hi => decide_eq_decide.mpr ?_
  rw [h3 i hi]
  cases i with
  | zero =>
    rw [prev0]
    by_cases q : k ≤ 0
    · rw [if_pos q]; constructor
      · intro _; omega
      · intro _; exact h2
    · rw [if_neg q]; constructor
      · intro h; exact absurd rfl h
      · intro h; omega
  | succ i =>
    rw [prevS, h3 i (by omega)]
    by_cases q : k ≤ i
    · rw [if_pos q, if_pos (by omega)]; constructor
      · intro h; exact absurd rfl h
      · intro h; omega
    · rw [if_neg q]
      by_cases r : k ≤ i + 1
      · rw [if_pos r]; constructor
        · intro _; omega
        · intro _; exact h2
      · rw [if_neg r]; constructor
        · intro h; exact absurd rfl h
        · intro h; omega
theorem mem_breaksN {m : List Int} {i : Nat} : i ∈ breaksN m ↔ i < m.length ∧ m.getD i 0 ≠ (0 :: m).getD i 0 := by
  simp only [breaksN, List.mem_filter, List.mem_range, decide_eq_true_eq]
/-- between breaks the value stays -/
theorem stay {m : List Int} {l r : Nat} (hr : r < m.length) (h : ∀ i, l < i → i ≤ r → i ∉ breaksN m) : ∀ d, l + d ≤ r → m.getD (l + d) 0 = m.getD l 0
  | 0, _ => rfl
  | d + 1, hd => by
    have ih := stay hr h d (by omega)
    have := h (l + (d + 1)) (by omega) hd
    rw [mem_breaksN] at this
    have e : m.getD (l + (d + 1)) 0 = (0 :: m).getD (l + (d + 1)) 0 := Classical.byContradiction fun q => this ⟨by omega, q⟩
    rw [e, show l + (d + 1) = (l + d) + 1 by omega, prevS, ih]
theorem start0 {m : List Int} {r : Nat} (hr : r < m.length) (h : ∀ i, i ≤ r → i ∉ breaksN m) : ∀ i, i ≤ r → m.getD i 0 = 0 := by
  have z : m.getD 0 0 = 0 := Classical.byContradiction fun q => h 0 (by omega) (mem_breaksN.mpr ⟨by omega, q⟩)
  intro i hi
  have := stay (l := 0) hr (fun i _ h2 => h i h2) i (by omega)
  rw [Nat.zero_add] at this
  rw [this, z]
theorem Fsh_of {m : List Int} {k : Nat} (h : breaksN m = [k]) : Fsh m k := by
  have hk := mem_breaksN.mp (show k ∈ breaksN m by rw [h]; simp)
  have no : ∀ i, i ≠ k → i ∉ breaksN m := fun i hi => by rw [h]; simp [hi]
  have before : ∀ i, i < k → m.getD i 0 = 0 := fun i hi => start0 (r := i) (by omega) (fun j hj => no j (by omega)) i (by omega)
  have hv : m.getD k 0 ≠ 0 := by
    cases k with
    | zero => exact hk.2
    | succ k => rw [prevS, before k (by omega)] at hk; exact hk.2
  refine ⟨hk.1, hv, fun i hi => ?_⟩
  by_cases q : k ≤ i
  · rw [if_pos q]
    have := stay (l := k) hi (fun j h1 h2 => no j (by omega)) (i - k) (by omega)
    rwa [show k + (i - k) = i by omega] at this
  · rw [if_neg q]
    exact before i (by omega)
theorem breaks_O {m : List Int} {k : Nat} (h : Osh m k) (hk : k + 1 < m.length) : breaksN m = [k, k + 1] ∧ m.getD (k + 1) 0 = 0 := by
  obtain ⟨h1, h2, h3⟩ := h
  have z : m.getD (k + 1) 0 = 0 := by rw [h3 (k + 1) hk, if_neg (by omega)]
  refine ⟨filt_two hk fun i hi => decide_eq_decide.mpr ?_, z⟩
  rw [h3 i hi]
  cases i with
  | zero =>
    rw [prev0]
    by_cases q : 0 = k
    · rw [if_pos q]; constructor
      · intro _; omega
      · intro _; exact h2
    · rw [if_neg q]; constructor
      · intro h; exact absurd rfl h
      · intro h; omega
  | succ i =>
    rw [prevS, h3 i (by omega)]
    by_cases q : i = k
    · rw [if_pos q, if_neg (by omega)]; constructor
      · intro _; omega
      · intro _ e; exact h2 e.symm
    · rw [if_neg q]
      by_cases r : i + 1 = k
      · rw [if_pos r]; constructor
        · intro _; omega
        · intro _; exact h2
      · rw [if_neg r]; constructor
        · intro h; exact absurd rfl h
        · intro h; omega
theorem Osh_of {m : List Int} {k : Nat} (h : breaksN m = [k, k + 1]) (hz : m.getD (k + 1) 0 = 0) : Osh m k := by
  have hk := mem_breaksN.mp (show k ∈ breaksN m by rw [h]; simp)
  have hk1 := mem_breaksN.mp (show k + 1 ∈ breaksN m by rw [h]; simp)
  have no : ∀ i, i ≠ k → i ≠ k + 1 → i ∉ breaksN m := fun i hi hi2 => by rw [h]; simp [hi, hi2]
  have before : ∀ i, i < k → m.getD i 0 = 0 := fun i hi => start0 (r := i) (by omega) (fun j hj => no j (by omega) (by omega)) i (by omega)
  have hv : m.getD k 0 ≠ 0 := by
    cases k with
    | zero => exact hk.2
    | succ k => rw [prevS, before k (by omega)] at hk; exact hk.2
  refine ⟨hk.1, hv, fun i hi => ?_⟩
  by_cases q : i = k
  · subst q; rw [if_pos rfl]
  · rw [if_neg q]
    by_cases r : i < k
    · exact before i r
    · have := stay (l := k + 1) hi (fun j h1 h2 => no j (by omega) (by omega)) (i - (k + 1)) (by omega)
      rw [show k + 1 + (i - (k + 1)) = i by omega] at this
      rw [this, hz]
theorem O_last {m : List Int} {k : Nat} (h : k + 1 = m.length) : Osh m k ↔ Fsh m k := by
  constructor
  · rintro ⟨h1, h2, h3⟩
    refine ⟨h1, h2, fun i hi => ?_⟩
    rw [h3 i hi]
    exact if_cg ⟨fun e => by omega, fun e => by omega⟩
  · rintro ⟨h1, h2, h3⟩
    refine ⟨h1, h2, fun i hi => ?_⟩
    rw [h3 i hi]
    exact if_cg ⟨fun e => by omega, fun e => by omega⟩
theorem steps_at {m : List Int} {k : Nat} (h : k < m.length) : (stepsZ m).getD k 0 = m.getD k 0 - (0 :: m).getD k 0 := by
  have z : ((0 :: m).zip m)[k]? = some ((0 :: m)[k]'(by simp; omega), m[k]) := by
    rw [List.getElem?_eq_getElem (by simp; omega)]
    simp
  simp [stepsZ, List.getD, z, h, List.getElem?_eq_getElem (show k < (0 :: m).length by simp; omega)]
theorem prev_F {m : List Int} {k : Nat} (h : Fsh m k) : (0 :: m).getD k 0 = 0 := by
  cases k with
  | zero => rfl
  | succ k => rw [prevS, h.2.2 k (by have := h.1; omega), if_neg (by omega)]
theorem natsI_cons (k : Nat) (ks : List Nat) : natsI (k :: ks) = (k : Int) :: natsI ks := rfl
@[simp] theorem natsI_len (ks : List Nat) : (natsI ks).length = ks.length := by simp [natsI]
/-- what commands_for finds: the filter keeps all -/
theorem filt_cmds (n : Nat) (cs : List Cmd) (h : ∀ c ∈ cs, c.ok n) (ρ : Rho) (h0 : ρ[0]? = some (.fz (.int n))) (h5 : ρ[5]? = some .un) : lcL [5] (.name 5) T1_commands_for C1_commands_for (cmdsD cs) ρ = .ok (cmdsD cs) ρ := by
  have := lcL_1f (ft := T1_commands_for) (fe := C1_commands_for) h5 Cmd.d Cmd.d (fun _ => true) cs (fun c hc => by
    have e := is_command_ok n c (h c hc)
    simp [T1_commands_for, set_get_ne, h0, set_get_eq h5, e]) (fun c hc _ => by simp [C1_commands_for, set_get_eq h5])
  rw [cmdsD, this, List.filter_eq_self.mpr (fun _ _ => rfl)]
end Cap
set_option Elab.async false
set_option linter.all false
set_option maxRecDepth 100000
set_option maxHeartbeats 2000000
namespace Cap
open PySem PySem.Spec L2 Mi
theorem oneF_ok {m : List Int} (hb : In (-4000000000000) 4000000000000 m) : ∀ c ∈ oneF m, c.ok m.length := by
  intro c hc
  by_cases h : ∃ k, Fsh m k
  · obtain ⟨k, hk⟩ := h
    rw [oneF_some hk] at hc
    simp only [List.mem_singleton] at hc
    subst hc
    have h1 := hk.1
    have bd := hb (m.getD k 0) (by rw [List.getD, List.getElem?_eq_getElem h1]; simp)
    exact ⟨by show (0 : Int) ≤ k; omega, by show (k : Int) ≤ m.length - 1; omega, bd.1, bd.2, hk.2.1⟩
  · rw [oneF_none fun k hk => h ⟨k, hk⟩] at hc
    simp at hc
theorem oneO_ok {m : List Int} (hb : In (-4000000000000) 4000000000000 m) : ∀ c ∈ oneO m, c.ok m.length := by
  intro c hc
  by_cases h : ∃ k, Osh m k
  · obtain ⟨k, hk⟩ := h
    rw [oneO_some hk] at hc
    simp only [List.mem_singleton] at hc
    subst hc
    have h1 := hk.1
    have bd := hb (m.getD k 0) (by rw [List.getD, List.getElem?_eq_getElem h1]; simp)
    exact ⟨by show (0 : Int) ≤ k; omega, by show (k : Int) ≤ m.length - 1; omega, bd.1, bd.2, hk.2.1⟩
  · rw [oneO_none fun k hk => h ⟨k, hk⟩] at hc
    simp at hc
theorem Fd (k : Nat) (v : Int) : (⟨false, (k : Int), v⟩ : Cmd).d = .tuple [.str "following", .int k, .int v] := rfl
theorem Od (k : Nat) (v : Int) : (⟨true, (k : Int), v⟩ : Cmd).d = .tuple [.str "one", .int k, .int v] := rfl
theorem Osh_cases {m : List Int} {k : Nat} (h : Osh m k) : (k + 1 = m.length ∧ breaksN m = [k]) ∨ (k + 1 < m.length ∧ breaksN m = [k, k + 1] ∧ m.getD (k + 1) 0 = 0) := by
  rcases Nat.lt_or_ge (k + 1) m.length with q | q
  · exact .inr ⟨q, breaks_O h q⟩
  · have : k + 1 = m.length := by have := h.1; omega
    exact .inl ⟨this, breaks_F ((O_last this).mp h)⟩
theorem commands_for_ok (m : List Int) (hb : In (-4000000000000) 4000000000000 m) (hl : m.length ≤ 30) : F_commands_for [] [.int m.length, .list (intsD m)] = .ok (.list (cmdsD (oneF m ++ oneO m))) [] := by
  have hc := filt_cmds m.length (oneF m ++ oneO m) fun c hc => by
    rcases List.mem_append.mp hc with q | q
    · exact oneF_ok hb c q
    · exact oneO_ok hb c q
  have b := breaks_of_ok m (by omega)
  have s := steps_of_ok m (by omega)
  rw [breaksZ_N] at b
  cases hbn : breaksN m with
  | nil =>
    have f : oneF m = [] := oneF_none fun k hk => by have := breaks_F hk; rw [hbn] at this; cases this
    have o : oneO m = [] := oneO_none fun k hk => by
      rcases Osh_cases hk with ⟨_, q⟩ | ⟨_, q, _⟩ <;> (rw [hbn] at q; cases q)
    rw [f, o] at hc ⊢
    rw [hbn] at b
    have z : intsD (natsI []) = [] := rfl
    have z2 : cmdsD ([] ++ []) = [] := rfl
    rw [z] at b
    rw [z2] at hc ⊢
    simp [F_commands_for, M_commands_for, b, s, hc]
  | cons k t =>
    cases t with
    | nil =>
      have hk := Fsh_of hbn
      have h1 := hk.1
      have z : intsD (natsI [k]) = [.int k] := rfl
      rw [hbn, z] at b
      have st : atI (intsD (stepsZ m)) (k : Int) = some (.int (m.getD k 0)) := by
        rw [atI_ints (by rw [stepsZ_len]; exact h1), steps_at h1, prev_F hk, Int.sub_zero]
      rw [oneF_some hk] at hc ⊢
      by_cases q : k + 1 = m.length
      · rw [oneO_some ((O_last q).mpr hk)] at hc ⊢
        have q2 : (k : Int) = m.length - 1 := by omega
        have z2 : cmdsD ([⟨false, (k : Int), m.getD k 0⟩] ++ [⟨true, (k : Int), m.getD k 0⟩]) = [.tuple [.str "following", .int k, .int (m.getD k 0)], .tuple [.str "one", .int k, .int (m.getD k 0)]] := rfl
        rw [z2] at hc ⊢
        simp [F_commands_for, M_commands_for, b, s, st, ← q2, hc, -List.getD_eq_getElem?_getD]
      · have o : oneO m = [] := oneO_none fun j hj => by
          rcases Osh_cases hj with ⟨a1, a2⟩ | ⟨_, a2, _⟩
          · rw [hbn] at a2; cases a2; exact q a1
          · rw [hbn] at a2; cases a2
        rw [o] at hc ⊢
        have q2 : ¬ (k : Int) = m.length - 1 := by omega
        have z2 : cmdsD ([⟨false, (k : Int), m.getD k 0⟩] ++ []) = [.tuple [.str "following", .int k, .int (m.getD k 0)]] := rfl
        rw [z2] at hc ⊢
        simp [F_commands_for, M_commands_for, b, s, st, q2, hc, -List.getD_eq_getElem?_getD]
    | cons j t =>
      have f : oneF m = [] := oneF_none fun k hk => by have := breaks_F hk; rw [hbn] at this; cases this
      rw [f] at hc ⊢
      cases t with
      | nil =>
        have hj := mem_breaksN.mp (show j ∈ breaksN m by rw [hbn]; simp)
        have hk := mem_breaksN.mp (show k ∈ breaksN m by rw [hbn]; simp)
        have z : intsD (natsI [k, j]) = [.int k, .int j] := rfl
        rw [hbn, z] at b
        have sj := atI_ints (xs := m) hj.1
        have sk := atI_ints (xs := m) hk.1
        by_cases q : j = k + 1 ∧ m.getD j 0 = 0
        · obtain ⟨rfl, q2⟩ := q
          rw [oneO_some (Osh_of hbn q2)] at hc ⊢
          rw [q2] at sj
          have z2 : cmdsD ([] ++ [⟨true, (k : Int), m.getD k 0⟩]) = [.tuple [.str "one", .int k, .int (m.getD k 0)]] := rfl
          rw [z2] at hc ⊢
          simp at sj
          simp [F_commands_for, M_commands_for, b, s, sj, sk, hc, -List.getD_eq_getElem?_getD]
        · have o : oneO m = [] := oneO_none fun i hi => by
            rcases Osh_cases hi with ⟨a1, a2⟩ | ⟨_, a2, a3⟩
            · rw [hbn] at a2; cases a2
            · rw [hbn] at a2; cases a2; exact q ⟨rfl, a3⟩
          rw [o] at hc ⊢
          have z2 : cmdsD ([] ++ []) = [] := rfl
          rw [z2] at hc ⊢
          by_cases q1 : j = k + 1
          · have q2 : ¬ m.getD j 0 = 0 := fun e => q ⟨q1, e⟩
            have q3 : (j : Int) = (k : Int) + 1 := by omega
            rw [q3] at sj b
            simp [F_commands_for, M_commands_for, b, s, sj, q2, hc, -List.getD_eq_getElem?_getD]
          · have q3 : ¬ (j : Int) = (k : Int) + 1 := by omega
            simp [F_commands_for, M_commands_for, b, s, q3, hc, -List.getD_eq_getElem?_getD]
      | cons i t =>
        have o : oneO m = [] := oneO_none fun i hi => by
          rcases Osh_cases hi with ⟨_, q⟩ | ⟨_, q, _⟩ <;> (rw [hbn] at q; cases q)
        rw [o] at hc ⊢
        have z2 : cmdsD ([] ++ []) = [] := rfl
        rw [z2] at hc ⊢
        rw [hbn] at b
        have l1 : ¬ ((natsI (k :: j :: i :: t)).length : Int) = 1 := by simp; omega
        have l2 : ¬ ((natsI (k :: j :: i :: t)).length : Int) = 2 := by simp; omega
        generalize natsI (k :: j :: i :: t) = zs at b l1 l2
        simp [F_commands_for, M_commands_for, b, s, l1, l2, hc]
theorem single_ok (a b : List Int) (h : GoodT a) (k : GoodT b) (hl : b.length = a.length) (hb : In (-4000000000000) 4000000000000 (shiftsZ a b)) : F_single_commands [] [.tuple (intsD a), .tuple (intsD b)] = .ok (.list (cmdsD (dueZ a b))) [] := by
  have := h.2.1
  have sl : (shiftsZ a b).length = a.length := by rw [shiftsZ_len]; omega
  have c := commands_for_ok (shiftsZ a b) hb (by omega)
  rw [sl, ← due_one hl hb] at c
  simp [F_single_commands, M_single_commands, require_rows_ok a b h k hl, shifts_of_ok a b (by omega), c]
end Cap
set_option Elab.async false
set_option linter.all false
set_option maxRecDepth 100000
set_option maxHeartbeats 2000000
namespace Cap
open PySem PySem.Spec L2 Mi
/-- is the base y out of the range -/
def mis (r : Int × Int) (y : Int) : Int := if r.1 ≤ y ∧ y ≤ r.2 then 0 else 1
def chg (y z : Int) : Int := if y = z then 0 else 1
theorem mis_01 (r : Int × Int) (y : Int) : 0 ≤ mis r y ∧ mis r y ≤ 1 := by unfold mis; split <;> omega
theorem chg_01 (y z : Int) : 0 ≤ chg y z ∧ chg y z ≤ 1 := by unfold chg; split <;> omega
theorem chg_self (y : Int) : chg y y = 0 := if_pos rfl
/-- the price of the bases b over the ranges rs, prev the base before -/
def cost (one fol : Int) : Int → List (Int × Int) → List Int → Int
  | prev, r :: rs, y :: b => fol * chg prev y + one * mis r y + cost one fol y rs b
  | _, _, _ => 0
structure IsMin (one fol : Int) (rs : List (Int × Int)) (v : Int) : Prop where
  low : ∀ b : List Int, b.length = rs.length → v ≤ cost one fol 0 rs b
  got : ∃ b : List Int, b.length = rs.length ∧ cost one fol 0 rs b = v
theorem IsMin.uniq {one fol : Int} {rs : List (Int × Int)} {v w : Int} (h : IsMin one fol rs v) (k : IsMin one fol rs w) : v = w := by
  obtain ⟨b, hb, e⟩ := h.got
  obtain ⟨c, hc, e2⟩ := k.got
  have := h.low c hc
  have := k.low b hb
  omega
def exact (m : List Int) : List (Int × Int) := m.map fun x => (x, x)
theorem mis_exact (x y : Int) : mis (x, x) y = if x = y then 0 else 1 := by
  unfold mis
  by_cases h : x = y
  · subst h; simp
  · rw [if_neg h, if_neg]
    intro q
    simp at q
    omega
theorem cost_nonneg {one fol : Int} (h1 : 0 ≤ one) (h2 : 0 ≤ fol) : ∀ (prev : Int) (rs : List (Int × Int)) (b : List Int), 0 ≤ cost one fol prev rs b
  | prev, r :: rs, y :: b => by
    have := cost_nonneg h1 h2 y rs b
    have a1 := Int.mul_nonneg h2 (chg_01 prev y).1
    have a2 := Int.mul_nonneg h1 (mis_01 r y).1
    simp only [cost]; omega
  | _, [], _ => by simp [cost]
  | _, _ :: _, [] => by simp [cost]
/-- behind some shifts: the number of commands, the bases that may be the last one with so many -/
def autS (S : List Int) (s : Int) : List Int := if s ∈ S then [s] else s :: S
def autN (S : List Int) (s : Int) : Int := if s ∈ S then 0 else 1
def aut : List Int → List Int → Int
  | _, [] => 0
  | S, s :: m => autN S s + aut (autS S s) m
/-- lower bound: bases b from a base y whose cost so far is c -/
theorem aut_low : ∀ (m : List Int) (S : List Int) (y : Int) (c : Int), (if y ∈ S then 0 else 1) ≤ c → ∀ b : List Int, b.length = m.length → aut S m ≤ c + cost 1 1 y (exact m) b
  | [], S, y, c, hc, b, _ => by
    have : 0 ≤ c := by split at hc <;> omega
    simp [aut, cost, exact]; omega
  | s :: m, S, y, c, hc, [], hl => by simp at hl
  | s :: m, S, y, c, hc, z :: b, hl => by
    have key : (if z ∈ autS S s then (0 : Int) else 1) ≤ c + chg y z + mis (s, s) z - autN S s := by
      rw [mis_exact]
      unfold autS autN chg
      by_cases hs : s ∈ S
      · rw [if_pos hs, if_pos hs]
        have c0 : 0 ≤ c := by split at hc <;> omega
        by_cases hz : z = s
        · subst hz; simp; split <;> omega
        · have : ¬ s = z := fun e => hz e.symm
          simp [hz, this]; split <;> omega
      · rw [if_neg hs, if_neg hs]
        by_cases hz : z = s
        · subst hz
          simp
          by_cases hy : y = z
          · subst hy; rw [if_neg hs] at hc; simp; omega
          · simp [hy]; split at hc <;> omega
        · have hz' : ¬ s = z := fun e => hz e.symm
          by_cases hzS : z ∈ S
          · simp [hz', hzS]
            by_cases hy : y = z
            · subst hy; simp; rw [if_pos hzS] at hc; omega
            · simp [hy]; split at hc <;> omega
          · simp [hz, hz', hzS]
            by_cases hy : y = z
            · subst hy; rw [if_neg hzS] at hc; simp; omega
            · simp [hy]; split at hc <;> omega
    have ih := aut_low m (autS S s) z (c + chg y z + mis (s, s) z - autN S s) key b (by simpa using hl)
    simp only [aut, exact, List.map_cons, cost] at ih ⊢
    omega
/-- the bases so far, told from the last one back -/
theorem aut_got : ∀ (m : List Int) (S : List Int), S ≠ [] → ∀ x, x ∈ S → True → ∃ y ∈ S, ∃ b : List Int, b.length = m.length ∧ cost 1 1 y (exact m) b = aut S m
  | [], S, hS, x, hx, _ => ⟨x, hx, [], rfl, by simp [cost, exact, aut]⟩
  | s :: m, S, hS, x, hx, _ => by
    have hne : autS S s ≠ [] := by unfold autS; split <;> simp
    have hin : s ∈ autS S s := by unfold autS; split <;> simp
    obtain ⟨z, hz, b, hb, e⟩ := aut_got m (autS S s) hne s hin trivial
    unfold autS at hz
    by_cases hs : s ∈ S
    · rw [if_pos hs] at hz
      have hz : z = s := by simpa using hz
      subst hz
      refine ⟨z, hs, z :: b, by simp [hb], ?_⟩
      simp only [exact, List.map_cons, cost, aut, autN, if_pos hs, chg_self]
      rw [mis_exact, if_pos rfl]
      simp only [exact] at e
      omega
    · rw [if_neg hs] at hz
      rcases List.mem_cons.mp hz with rfl | hz
      · refine ⟨x, hx, z :: b, by simp [hb], ?_⟩
        have : ¬ x = z := fun q => hs (q ▸ hx)
        simp only [exact, List.map_cons, cost, aut, autN, if_neg hs, chg, if_neg this]
        rw [mis_exact, if_pos rfl]
        simp only [exact, chg] at e
        omega
      · have hsz : ¬ s = z := fun q => hs (q ▸ hz)
        refine ⟨z, hz, z :: b, by simp [hb], ?_⟩
        simp only [exact, List.map_cons, cost, aut, autN, if_neg hs, chg_self]
        rw [mis_exact, if_neg hsz]
        simp only [exact] at e
        omega
theorem aut_min (m : List Int) : IsMin 1 1 (exact m) (aut [0] m) where
  low := fun b hb => by
    have := aut_low m [0] 0 0 (by simp) b (by simpa [exact] using hb)
    omega
  got := by
    obtain ⟨y, hy, b, hb, e⟩ := aut_got m [0] (by simp) 0 (by simp) trivial
    have : y = 0 := by simpa using hy
    subst this
    exact ⟨b, by simpa [exact] using hb, e⟩
/-- the values before the places from free to last -/
def seenV (p : List Int) (free last : Nat) : List Int := (List.range' free (last + 1 - free)).map fun k => p.getD k 0
theorem mem_seenV {p : List Int} {free last : Nat} {x : Int} : x ∈ seenV p free last ↔ ∃ k, free ≤ k ∧ k ≤ last ∧ p.getD k 0 = x := by
  unfold seenV
  simp only [List.mem_map, List.mem_range'_1]
  constructor
  · rintro ⟨k, hk, e⟩; exact ⟨k, by omega, by omega, e⟩
  · rintro ⟨k, h1, h2, e⟩; exact ⟨k, by omega, e⟩
theorem aut_congr : ∀ (m : List Int) (S T : List Int), (∀ x, x ∈ S ↔ x ∈ T) → aut S m = aut T m
  | [], _, _, _ => rfl
  | s :: m, S, T, h => by
    have e1 : autN S s = autN T s := by unfold autN; simp [h s]
    have e2 : ∀ x, x ∈ autS S s ↔ x ∈ autS T s := fun x => by
      unfold autS
      by_cases hs : s ∈ S
      · rw [if_pos hs, if_pos ((h s).mp hs)]
      · rw [if_neg hs, if_neg (fun q => hs ((h s).mpr q))]
        simp [h x]
    simp only [aut, e1, aut_congr m _ _ e2]
theorem seenV_self (p : List Int) (l : Nat) : ∀ x, x ∈ seenV p l l ↔ x ∈ [p.getD l 0] := fun x => by
  rw [mem_seenV]
  simp only [List.mem_cons, List.not_mem_nil, or_false]
  constructor
  · rintro ⟨k, h1, h2, e⟩
    have : k = l := by omega
    rw [← e, this]
  · intro e; exact ⟨l, by omega, by omega, e.symm⟩
theorem brk_cons (prev : Int) (i : Nat) (x : Int) (xs : List Int) : ((brk prev i (x :: xs)).length : Int) = (if x = prev then 0 else 1) + ((brk x (i + 1) xs).length : Int) := by
  rw [brk]
  by_cases h : x = prev
  · rw [if_neg (fun q => q h), if_pos h]; omega
  · rw [if_pos h, if_neg h, List.length_cons]; omega
theorem aut_ret (p : List Int) : ∀ (xs : List Int) (free last : Nat), free ≤ last → p.drop last = p.getD last 0 :: xs → ((brk (p.getD last 0) last xs).length : Int) - ((retG p free last xs).length : Int) = aut (seenV p free last) xs
  | [], free, last, _, _ => by simp [brk, retG, aut]
  | x :: xs, free, last, hf, hd => by
    have hd2 : p.drop (last + 1) = x :: xs := by rw [← List.drop_drop, hd]; rfl
    have hx : p.getD (last + 1) 0 = x := getD_drop hd2
    rw [brk_cons, retG, aut]
    have reset : ∀ y, y ∈ seenV p (last + 1) (last + 1) ↔ y ∈ [x] := fun y => by rw [seenV_self, hx]
    by_cases h : x = p.getD last 0
    · rw [if_pos h, if_pos h]
      have hin : x ∈ seenV p free last := mem_seenV.mpr ⟨last, hf, by omega, h.symm⟩
      have ih := aut_ret p xs (last + 1) (last + 1) (by omega) (by rw [hx]; exact hd2)
      rw [hx] at ih
      rw [autN, if_pos hin, autS, if_pos hin, ← aut_congr _ _ _ reset]
      omega
    · rw [if_neg h, if_neg h]
      cases q : (starts p x free (last - free)).getLast? with
      | some s =>
        obtain ⟨s1, s2, s3⟩ := starts_some q
        have hin : x ∈ seenV p free last := mem_seenV.mpr ⟨s, s1, by omega, s3⟩
        have ih := aut_ret p xs (last + 1) (last + 1) (by omega) (by rw [hx]; exact hd2)
        rw [hx] at ih
        rw [autN, if_pos hin, autS, if_pos hin, ← aut_congr _ _ _ reset]
        simp only [List.length_cons]
        omega
      | none =>
        have hno : x ∉ seenV p free last := fun z => by
          obtain ⟨k, k1, k2, e⟩ := mem_seenV.mp z
          by_cases hk : k = last
          · subst hk; exact h e.symm
          · exact starts_none.mp q k k1 (by omega) e
        have ih := aut_ret p xs free (last + 1) (by omega) (by rw [hx]; exact hd2)
        rw [hx] at ih
        have grow : ∀ y, y ∈ seenV p free (last + 1) ↔ y ∈ x :: seenV p free last := fun y => by
          rw [mem_seenV, List.mem_cons, mem_seenV]
          constructor
          · rintro ⟨k, k1, k2, e⟩
            by_cases hk : k = last + 1
            · subst hk; exact .inl (by rw [← e, hx])
            · exact .inr ⟨k, k1, by omega, e⟩
          · rintro (e | ⟨k, k1, k2, e⟩)
            · exact ⟨last + 1, by omega, by omega, by rw [hx, e]⟩
            · exact ⟨k, k1, by omega, e⟩
        rw [autN, if_neg hno, autS, if_neg hno, ← aut_congr _ _ _ grow]
        dsimp only
        omega
theorem fewest_aut (m : List Int) : fewestZ m = aut [0] m := by
  have := aut_ret (0 :: m) m 0 0 (Nat.le_refl _) rfl
  unfold fewestZ
  rw [breaksZ_brk, retZ]
  exact this
theorem fewest_min (m : List Int) : IsMin 1 1 (exact m) (fewestZ m) := by rw [fewest_aut]; exact aut_min m
end Cap
set_option Elab.async false
set_option linter.all false
set_option maxRecDepth 100000
set_option maxHeartbeats 2000000
namespace Cap
open PySem PySem.Spec L2 Mi
/-- all sets of places below n, ascending rows -/
def cutsZ : Nat → List (List Nat)
  | 0 => [[]]
  | n + 1 => cutsZ n ++ (cutsZ n).map (· ++ [n])
theorem mem_cutsZ : ∀ {n : Nat} {C : List Nat}, C ∈ cutsZ n ↔ C.Pairwise (· < ·) ∧ ∀ c ∈ C, c < n
  | 0, C => by
    simp only [cutsZ, List.mem_singleton]
    constructor
    · rintro rfl; simp
    · rintro ⟨_, h⟩
      cases C with
      | nil => rfl
      | cons c C => exact absurd (h c (by simp)) (by omega)
  | n + 1, C => by
    simp only [cutsZ, List.mem_append, List.mem_map]
    constructor
    · rintro (h | ⟨C, h, rfl⟩)
      · obtain ⟨h1, h2⟩ := mem_cutsZ.mp h
        exact ⟨h1, fun c hc => by have := h2 c hc; omega⟩
      · obtain ⟨h1, h2⟩ := mem_cutsZ.mp h
        refine ⟨List.pairwise_append.mpr ⟨h1, by simp, fun a ha b hb => ?_⟩, fun c hc => ?_⟩
        · have hb : b = n := by simpa using hb
          rw [hb]; exact h2 a ha
        · rcases List.mem_append.mp hc with hc | hc
          · have := h2 c hc; omega
          · have hb : c = n := by simpa using hc
            omega
    · rintro ⟨h1, h2⟩
      rcases List.eq_nil_or_concat C with rfl | ⟨B, c, rfl⟩
      · exact .inl (mem_cutsZ.mpr ⟨.nil, by simp⟩)
      · rw [List.concat_eq_append] at h1 h2 ⊢
        obtain ⟨g1, _, g3⟩ := List.pairwise_append.mp h1
        by_cases hc : c = n
        · subst hc
          exact .inr ⟨B, mem_cutsZ.mpr ⟨g1, fun b hb => g3 b hb c (by simp)⟩, rfl⟩
        · refine .inl (mem_cutsZ.mpr ⟨h1, fun b hb => ?_⟩)
          have hcn : c < n := by have := h2 c (by simp); omega
          rcases List.mem_append.mp hb with hb | hb
          · have := g3 b hb c (by simp); omega
          · have hb : b = c := by simpa using hb
            omega
/-- how many of the places from low to high the base y misses -/
def misses (rs : List (Int × Int)) (y : Int) (low high : Nat) : Int := (((rs.drop low).take (high - low)).map fun r => mis r y).sum
theorem misses_nonneg (rs : List (Int × Int)) (y : Int) (low high : Nat) : 0 ≤ misses rs y low high := by
  unfold misses
  generalize (rs.drop low).take (high - low) = l
  induction l with
  | nil => simp
  | cons r l ih => have := (mis_01 r y).1; simp; omega
theorem misses_none (rs : List (Int × Int)) (y : Int) (low : Nat) : misses rs y low low = 0 := by simp [misses]
theorem misses_step (rs : List (Int × Int)) (y : Int) (low k : Nat) (h : low ≤ k) {r : Int × Int} (hr : rs[k]? = some r) : misses rs y low (k + 1) = misses rs y low k + mis r y := by
  have hk : k < rs.length := (List.getElem?_eq_some_iff.mp hr).1
  unfold misses
  rw [show k + 1 - low = (k - low) + 1 by omega, List.take_add_one]
  have : (rs.drop low)[k - low]? = some r := by rw [List.getElem?_drop, show low + (k - low) = k by omega, hr]
  rw [this]
  simp
section
variable {one fol : Int} {rs : List (Int × Int)} {part : Bool → Nat → Nat → Int}
/-- the price of a set of cuts: what each part costs; a cut costs fol -/
def priceC (fol : Int) (part : Bool → Nat → Nat → Int) (n : Nat) : Bool → Nat → List Nat → Int
  | f, low, [] => part f low n
  | f, low, c :: C => part f low c + fol + priceC fol part n false c C
/-- a part costs the least of what a base costs in it (the base 0 in the first part) -/
structure Part (one : Int) (rs : List (Int × Int)) (part : Bool → Nat → Nat → Int) : Prop where
  low : ∀ f low high y, low ≤ high → high ≤ rs.length → (f = true → y = 0) → part f low high ≤ one * misses rs y low high
  got : ∀ f low high, low ≤ high → high ≤ rs.length → ∃ y, (f = true → y = 0) ∧ part f low high = one * misses rs y low high
theorem cost_const (one fol : Int) (h0 : 0 ≤ fol) (rs : List (Int × Int)) (y : Int) : ∀ (d low : Nat) (prev : Int) (b : List Int), low + d ≤ rs.length →
    cost one fol prev (rs.drop low) (List.replicate d y ++ b) ≤ (if d = 0 then 0 else fol * chg prev y) + one * misses rs y low (low + d) + cost one fol (if d = 0 then prev else y) (rs.drop (low + d)) b
  | 0, low, prev, b, h => by simp [misses]
  | d + 1, low, prev, b, h => by
    have hlt : low < rs.length := by omega
    rw [List.drop_eq_getElem_cons hlt]
    simp only [List.replicate_succ, List.cons_append, cost]
    have ih := cost_const one fol h0 rs y d (low + 1) y b (by omega)
    rw [if_neg (by omega : ¬ d + 1 = 0), if_neg (by omega : ¬ d + 1 = 0)]
    have e : misses rs y low (low + (d + 1)) = mis rs[low] y + misses rs y (low + 1) (low + 1 + d) := by
      unfold misses
      rw [show low + (d + 1) - low = d + 1 by omega, show low + 1 + d - (low + 1) = d by omega, List.drop_eq_getElem_cons hlt, List.take_succ_cons]
      simp
    rw [e, show low + (d + 1) = low + 1 + d by omega, Int.mul_add]
    have c0 : (if d = 0 then y else y) = y := by split <;> rfl
    rw [c0, chg_self] at ih
    have c1 : (if d = 0 then (0 : Int) else fol * 0) = 0 := by split <;> omega
    rw [c1] at ih
    omega
/-- from cuts to bases -/
theorem cuts_low (P : Part one rs part) (h0 : 0 ≤ fol) : ∀ (C : List Nat) (f : Bool) (low : Nat), low ≤ rs.length → (∀ c ∈ C, low ≤ c ∧ c < rs.length) → C.Pairwise (· < ·) →
    ∃ b : List Int, b.length = rs.length - low ∧ ∀ prev : Int, (f = true → prev = 0) → cost one fol prev (rs.drop low) b ≤ (if f then 0 else fol) + priceC fol part rs.length f low C
  | [], f, low, hl, _, _ => by
    obtain ⟨y, hy, e⟩ := P.got f low rs.length hl (Nat.le_refl _)
    refine ⟨List.replicate (rs.length - low) y, by simp, fun prev hp => ?_⟩
    have := cost_const one fol h0 rs y (rs.length - low) low prev [] (by omega)
    rw [List.append_nil, show low + (rs.length - low) = rs.length by omega, ← e] at this
    have z : cost one fol (if rs.length - low = 0 then prev else y) (rs.drop rs.length) [] = 0 := by simp [cost]
    rw [z] at this
    have c1 : (if rs.length - low = 0 then (0 : Int) else fol * chg prev y) ≤ if f then 0 else fol := by
      cases f with
      | true => rw [hy rfl, hp rfl, chg_self]; simp
      | false =>
        have b1 := Int.mul_le_mul_of_nonneg_left (chg_01 prev y).2 h0
        split <;> simp <;> omega
    simp only [priceC]
    omega
  | c :: C, f, low, hl, hC, hs => by
    obtain ⟨hc1, hc2⟩ := hC c (by simp)
    obtain ⟨y, hy, e⟩ := P.got f low c hc1 (by omega)
    obtain ⟨s1, s2⟩ := List.pairwise_cons.mp hs
    obtain ⟨b, hb, ih⟩ := cuts_low P h0 C false c (by omega) (fun d hd => ⟨by have := s1 d hd; omega, (hC d (by simp [hd])).2⟩) s2
    refine ⟨List.replicate (c - low) y ++ b, by simp [hb]; omega, fun prev hp => ?_⟩
    have := cost_const one fol h0 rs y (c - low) low prev b (by omega)
    rw [show low + (c - low) = c by omega, ← e] at this
    have ih2 := ih (if c - low = 0 then prev else y) (by simp)
    simp only [Bool.false_eq_true, if_false] at ih2
    have c1 : (if c - low = 0 then (0 : Int) else fol * chg prev y) ≤ if f then 0 else fol := by
      cases f with
      | true => rw [hy rfl, hp rfl, chg_self]; simp
      | false =>
        have b1 := Int.mul_le_mul_of_nonneg_left (chg_01 prev y).2 h0
        split <;> simp <;> omega
    simp only [priceC]
    omega
/-- from bases to cuts: the part that runs began at low, its base y -/
theorem cuts_got (P : Part one rs part) (h1 : 0 ≤ one) : ∀ (b : List Int) (f : Bool) (low k : Nat) (y : Int), low ≤ k → k + b.length = rs.length → (f = true → y = 0) →
    ∃ C : List Nat, C.Pairwise (· < ·) ∧ (∀ c ∈ C, k ≤ c ∧ c < rs.length) ∧ priceC fol part rs.length f low C ≤ one * misses rs y low k + cost one fol y (rs.drop k) b
  | [], f, low, k, y, hk, hb, hf => by
    have hk2 : k = rs.length := by simpa using hb
    subst hk2
    refine ⟨[], .nil, by simp, ?_⟩
    have := P.low f low rs.length y hk (Nat.le_refl _) hf
    simp [priceC, cost]
    omega
  | z :: b, f, low, k, y, hk, hb, hf => by
    have hlt : k < rs.length := by simp at hb; omega
    rw [List.drop_eq_getElem_cons hlt]
    simp only [cost]
    have hr : rs[k]? = some rs[k] := List.getElem?_eq_getElem hlt
    by_cases hz : z = y
    · subst hz
      obtain ⟨C, C1, C2, C3⟩ := cuts_got P h1 b f low (k + 1) z (by omega) (by simp at hb; omega) hf
      refine ⟨C, C1, fun c hc => by have := C2 c hc; omega, ?_⟩
      rw [misses_step rs z low k hk hr, Int.mul_add] at C3
      rw [chg_self]
      omega
    · obtain ⟨C, C1, C2, C3⟩ := cuts_got P h1 b false k (k + 1) z (by omega) (by simp at hb; omega) (by simp)
      refine ⟨k :: C, List.pairwise_cons.mpr ⟨fun c hc => by have := C2 c hc; omega, C1⟩, fun c hc => ?_, ?_⟩
      · rcases List.mem_cons.mp hc with rfl | hc
        · omega
        · have := C2 c hc; omega
      · rw [misses_step rs z k k (Nat.le_refl _) hr, misses_none, Int.zero_add] at C3
        have q := P.low f low k y hk (by omega) hf
        have : chg y z = 1 := if_neg (fun e => hz e.symm)
        simp only [priceC]
        rw [this, Int.mul_one]
        omega
/-- the least price of all sets of cuts is the least price of all tables -/
theorem cuts_min (P : Part one rs part) (h1 : 0 ≤ one) (h0 : 0 ≤ fol) {v : Int} (hl : ∀ C ∈ cutsZ rs.length, v ≤ priceC fol part rs.length true 0 C) (hg : ∃ C ∈ cutsZ rs.length, priceC fol part rs.length true 0 C = v) : IsMin one fol rs v where
  low := fun b hb => by
    obtain ⟨C, C1, C2, C3⟩ := cuts_got (fol := fol) P h1 b true 0 0 0 (Nat.le_refl _) (by omega) (fun _ => rfl)
    have := hl C (mem_cutsZ.mpr ⟨C1, fun c hc => (C2 c hc).2⟩)
    rw [misses_none] at C3
    simp only [List.drop_zero] at C3
    omega
  got := by
    obtain ⟨C, hC, e⟩ := hg
    obtain ⟨C1, C2⟩ := mem_cutsZ.mp hC
    obtain ⟨b, hb, k⟩ := cuts_low P h0 C true 0 (Nat.zero_le _) (fun c hc => ⟨Nat.zero_le _, C2 c hc⟩) C1
    have k2 := k 0 (fun _ => rfl)
    simp only [List.drop_zero, if_true] at k2
    refine ⟨b, by simpa using hb, ?_⟩
    obtain ⟨D, D1, D2, D3⟩ := cuts_got (fol := fol) P h1 b true 0 0 0 (Nat.le_refl _) (by simp at hb; omega) (fun _ => rfl)
    have := hl D (mem_cutsZ.mpr ⟨D1, fun c hc => (D2 c hc).2⟩)
    rw [misses_none] at D3
    simp only [List.drop_zero] at D3
    omega
end
end Cap
set_option Elab.async false
set_option linter.all false
set_option maxRecDepth 100000
set_option maxHeartbeats 2000000
namespace Cap
open PySem PySem.Spec L2 Mi
/-- returns of m from lo on, ascending, apart -/
def RetP (m : List Int) : Nat → List (Nat × Nat) → Prop
  | _, [] => True
  | lo, p :: r => lo ≤ p.1 ∧ p.1 < p.2 ∧ p.2 < m.length ∧ (∀ k, p.1 ≤ k → k ≤ p.2 → m.getD k 0 ≠ (0 :: m).getD k 0) ∧ (0 :: m).getD p.1 0 = m.getD p.2 0 ∧ RetP m (p.2 + 1) r
theorem RetP.mono {m : List Int} {lo lo' : Nat} (h : lo' ≤ lo) : ∀ {ps : List (Nat × Nat)}, RetP m lo ps → RetP m lo' ps
  | [], _ => trivial
  | p :: r, ⟨a, b⟩ => ⟨by omega, b⟩
theorem retG_P (m : List Int) : ∀ (xs : List Int) (free last : Nat), free ≤ last → m.drop last = xs → (∀ k, free ≤ k → k < last → m.getD k 0 ≠ (0 :: m).getD k 0) → RetP m free (retG (0 :: m) free last xs)
  | [], _, _, _, _, _ => by simp [retG, RetP]
  | x :: xs, free, last, hf, hd, hb => by
    have hd2 : m.drop (last + 1) = xs := by rw [← List.drop_drop, hd]; rfl
    have hx : m.getD last 0 = x := getD_drop hd
    have hlt : last < m.length := by
      rcases Nat.lt_or_ge last m.length with h | h
      · exact h
      · rw [List.drop_eq_nil_of_le h] at hd; cases hd
    rw [retG]
    by_cases h : x = (0 :: m).getD last 0
    · rw [if_pos h]
      exact (retG_P m xs (last + 1) (last + 1) (Nat.le_refl _) hd2 (fun k h1 h2 => by omega)).mono (by omega)
    · rw [if_neg h]
      cases q : (starts (0 :: m) x free (last - free)).getLast? with
      | some s =>
        obtain ⟨s1, s2, s3⟩ := starts_some q
        refine ⟨s1, by show s < last; omega, hlt, fun k h1 h2 => ?_, by rw [s3, hx], retG_P m xs (last + 1) (last + 1) (Nat.le_refl _) hd2 (fun k h1 h2 => by omega)⟩
        by_cases hk : k = last
        · subst hk; rw [hx]; exact h
        · have h1 : s ≤ k := h1
          have h2 : k ≤ last := h2
          exact hb k (by omega) (by omega)
      | none =>
        refine retG_P m xs free (last + 1) (by omega) hd2 fun k h1 h2 => ?_
        by_cases hk : k = last
        · subst hk; rw [hx]; exact h
        · exact hb k h1 (by omega)
theorem retZ_P (m : List Int) : RetP m 0 (retZ m) := retG_P m m 0 0 (Nat.le_refl _) rfl (fun k h1 h2 => by omega)
theorem RetP.mem {m : List Int} : ∀ {ps : List (Nat × Nat)} {lo : Nat} {p : Nat × Nat}, RetP m lo ps → p ∈ ps → lo ≤ p.1 ∧ p.1 < p.2 ∧ p.2 < m.length ∧ (∀ k, p.1 ≤ k → k ≤ p.2 → m.getD k 0 ≠ (0 :: m).getD k 0) ∧ (0 :: m).getD p.1 0 = m.getD p.2 0
  | q :: r, lo, p, ⟨a, b, c, d, e, f⟩, hp => by
    rcases List.mem_cons.mp hp with rfl | hp
    · exact ⟨a, b, c, d, e⟩
    · obtain ⟨g1, g2⟩ := f.mem hp
      exact ⟨by omega, g2⟩
def eff (n : Nat) (c : Cmd) (i : Nat) : Int := if c.p.toNat ≤ i ∧ i < c.end n then c.v else 0
def lastZ (a : List Int) (cs : List Cmd) : List Int := cs.foldl afterZ a
theorem lastZ_len : ∀ (cs : List Cmd) (a : List Int), (lastZ a cs).length = a.length
  | [], _ => rfl
  | c :: cs, a => by
    show (lastZ (afterZ a c) cs).length = _
    rw [lastZ_len cs, afterZ_len]
theorem lastZ_get {i : Nat} : ∀ (cs : List Cmd) (a : List Int), i < a.length → (lastZ a cs).getD i 0 = a.getD i 0 + (cs.map fun c => eff a.length c i).sum
  | [], a, h => by simp [lastZ]
  | c :: cs, a, h => by
    show (lastZ (afterZ a c) cs).getD i 0 = _
    rw [lastZ_get cs (afterZ a c) (by rw [afterZ_len]; exact h), afterZ_len]
    unfold afterZ
    rw [updZ_get h]
    simp only [List.map_cons, List.sum_cons, eff]
    split <;> omega
def onesOf (m : List Int) (p : Nat × Nat) : List Cmd := (List.range' p.1 (p.2 - p.1)).map fun k : Nat => (⟨true, (k : Int), m.getD k 0 - (0 :: m).getD p.1 0⟩ : Cmd)
def placesOf (p : Nat × Nat) : List Nat := List.range' p.1 (p.2 + 1 - p.1)
def insideZ (ps : List (Nat × Nat)) : List Nat := ps.flatMap placesOf
def followsOf (m : List Int) (ps : List (Nat × Nat)) : List Cmd := ((breaksN m).filter fun k => decide (k ∉ insideZ ps)).map fun k : Nat => (⟨false, (k : Int), (stepsZ m).getD k 0⟩ : Cmd)
def planZ (m : List Int) : List Cmd := (retZ m).flatMap (onesOf m) ++ followsOf m (retZ m)
theorem mem_inside {ps : List (Nat × Nat)} {k : Nat} : k ∈ insideZ ps ↔ ∃ p ∈ ps, p.1 ≤ k ∧ k ≤ p.2 := by
  simp only [insideZ, List.mem_flatMap, placesOf, List.mem_range'_1]
  constructor
  · rintro ⟨p, hp, h⟩; exact ⟨p, hp, by omega, by omega⟩
  · rintro ⟨p, hp, h⟩; exact ⟨p, hp, by omega, by omega⟩
/-- the ones of a return at the place i -/
def oneE (m : List Int) (i : Nat) (p : Nat × Nat) : Int := if p.1 ≤ i ∧ i < p.2 then m.getD i 0 - (0 :: m).getD p.1 0 else 0
theorem sum_ones (m : List Int) (n i : Nat) (f : Nat → Int) : ∀ (d s : Nat), ((List.range' s d).map fun k : Nat => eff n (⟨true, (k : Int), f k⟩ : Cmd) i).sum = if s ≤ i ∧ i < s + d then f i else 0
  | 0, s => by simp; omega
  | d + 1, s => by
    rw [List.range'_succ, List.map_cons, List.sum_cons, sum_ones m n i f d (s + 1)]
    simp only [eff, Cmd.end, if_true, Int.toNat_natCast]
    by_cases h : s = i
    · subst h
      rw [if_pos ⟨Nat.le_refl _, by omega⟩, if_neg (by omega), if_pos ⟨Nat.le_refl _, by omega⟩]
      omega
    · by_cases h2 : s + 1 ≤ i ∧ i < s + 1 + d
      · rw [if_neg (by omega), if_pos h2, if_pos ⟨by omega, by omega⟩]; omega
      · rw [if_neg (by omega), if_neg h2, if_neg (by omega)]; omega
theorem ones_eff (m : List Int) (n i : Nat) (p : Nat × Nat) (h : p.1 < p.2) : ((onesOf m p).map fun c => eff n c i).sum = oneE m i p := by
  unfold onesOf oneE
  rw [List.map_map]
  have := sum_ones m n i (fun k => m.getD k 0 - (0 :: m).getD p.1 0) (p.2 - p.1) p.1
  rw [show p.1 + (p.2 - p.1) = p.2 by omega] at this
  exact this
theorem sum_flat {α : Type} (f : α → List Cmd) (g : Cmd → Int) : ∀ ps : List α, ((ps.flatMap f).map g).sum = (ps.map fun p => ((f p).map g).sum).sum
  | [] => rfl
  | p :: ps => by simp [sum_flat f g ps]
/-- how a return's ones change from the place before i to i -/
theorem oneE_step (m : List Int) (i : Nat) (p : Nat × Nat) (h : p.1 < p.2) (he : (0 :: m).getD p.1 0 = m.getD p.2 0) : oneE m i p - (if i = 0 then 0 else oneE m (i - 1) p) = if p.1 ≤ i ∧ i ≤ p.2 then m.getD i 0 - (0 :: m).getD i 0 else 0 := by
  unfold oneE
  cases i with
  | zero =>
    rw [if_pos rfl]
    by_cases h1 : p.1 = 0
    · rw [if_pos ⟨by omega, by omega⟩, if_pos ⟨by omega, by omega⟩, h1]; omega
    · rw [if_neg (by omega), if_neg (by omega)]; omega
  | succ i =>
    have z0 : ¬ (i + 1 = 0) := by omega
    rw [if_neg z0]
    simp only [Nat.add_sub_cancel]
    rw [prevS]
    by_cases h1 : p.1 ≤ i + 1 ∧ i + 1 < p.2
    · rw [if_pos h1, if_pos (c := p.1 ≤ i + 1 ∧ i + 1 ≤ p.2) ⟨h1.1, by omega⟩]
      by_cases h2 : p.1 ≤ i
      · rw [if_pos ⟨h2, by omega⟩]; omega
      · rw [if_neg (by omega)]
        have : p.1 = i + 1 := by omega
        rw [this, prevS]; omega
    · rw [if_neg h1]
      by_cases h3 : p.1 ≤ i + 1 ∧ i + 1 ≤ p.2
      · have e : p.2 = i + 1 := by omega
        rw [if_pos h3, if_pos ⟨by omega, by omega⟩, he, e]; omega
      · rw [if_neg h3]
        by_cases h2 : p.1 ≤ i ∧ i < p.2
        · omega
        · rw [if_neg h2]; omega
theorem sum_apart {m : List Int} {i : Nat} {v : Int} : ∀ {ps : List (Nat × Nat)} {lo : Nat}, RetP m lo ps → (ps.map fun p => if p.1 ≤ i ∧ i ≤ p.2 then v else 0).sum = if i ∈ insideZ ps then v else 0
  | [], _, _ => by simp [insideZ]
  | p :: r, lo, ⟨a, b, c, d, e, f⟩ => by
    have hlow : ∀ q ∈ r, p.2 + 1 ≤ q.1 := fun q hq => (f.mem hq).1
    rw [List.map_cons, List.sum_cons, sum_apart f]
    by_cases h : p.1 ≤ i ∧ i ≤ p.2
    · have hn : i ∉ insideZ r := fun z => by
        obtain ⟨q, hq, h1, h2⟩ := mem_inside.mp z
        have := hlow q hq
        omega
      rw [if_pos h, if_neg hn, if_pos (mem_inside.mpr ⟨p, by simp, h⟩)]; omega
    · rw [if_neg h]
      by_cases h2 : i ∈ insideZ r
      · obtain ⟨q, hq, h3⟩ := mem_inside.mp h2
        rw [if_pos h2, if_pos (mem_inside.mpr ⟨q, by simp [hq], h3⟩)]; omega
      · rw [if_neg h2, if_neg (fun z => by
          obtain ⟨q, hq, h3⟩ := mem_inside.mp z
          rcases List.mem_cons.mp hq with rfl | hq
          · exact h h3
          · exact h2 (mem_inside.mpr ⟨q, hq, h3⟩))]; omega
theorem sum_sub {α : Type} (f g : α → Int) : ∀ ps : List α, (ps.map f).sum - (ps.map g).sum = (ps.map fun p => f p - g p).sum
  | [] => rfl
  | p :: ps => by
    have := sum_sub f g ps
    simp only [List.map_cons, List.sum_cons]; omega
/-- the following ones at a place: the steps of the places up to it that stand in K -/
theorem sum_follow (n i : Nat) (hi : i < n) (f : Nat → Int) (K : List Nat) : (K.map fun k : Nat => eff n (⟨false, (k : Int), f k⟩ : Cmd) i).sum = ((K.filter fun k => decide (k ≤ i)).map f).sum := by
  induction K with
  | nil => rfl
  | cons k K ih =>
    rw [List.map_cons, List.sum_cons, ih]
    simp only [eff, Cmd.end, Bool.false_eq_true, if_false, Int.toNat_natCast]
    by_cases h : k ≤ i
    · rw [if_pos ⟨h, hi⟩, List.filter_cons_of_pos (by simpa using h), List.map_cons, List.sum_cons]
    · rw [if_neg (by omega), List.filter_cons_of_neg (by simpa using h)]; omega
theorem follow_step (m : List Int) (P : Nat → Bool) (f : Nat → Int) (i : Nat) (hi : i < m.length) :
    ((((breaksN m).filter P).filter fun k => decide (k ≤ i)).map f).sum - (if i = 0 then 0 else ((((breaksN m).filter P).filter fun k => decide (k ≤ i - 1)).map f).sum) = if i ∈ breaksN m ∧ P i = true then f i else 0 := by
  have gen : ∀ (Q : Nat → Bool) (i n : Nat), i < n → ((((List.range n).filter Q).filter fun k => decide (k ≤ i)).map f).sum = ((((List.range n).filter Q).filter fun k => decide (k < i)).map f).sum + if Q i = true then f i else 0 := by
    intro Q i n hn
    have e1 : ∀ j, ((List.range n).filter Q).filter (fun k => decide (k < j)) = ((List.range n).filter (fun k => decide (k < j))).filter Q := fun j => by
      rw [List.filter_filter, List.filter_filter]
      congr 1
      funext k
      rw [Bool.and_comm]
    have e2 : ∀ j, j ≤ n → (List.range n).filter (fun k => decide (k < j)) = List.range j := fun j hj => by
      obtain ⟨d, rfl⟩ : ∃ d, n = j + d := ⟨n - j, by omega⟩
      rw [List.range_add, List.filter_append, List.filter_eq_self.mpr (by simp), List.filter_eq_nil_iff.mpr (by simp), List.append_nil]
    have e3 : (fun k : Nat => decide (k ≤ i)) = fun k => decide (k < i + 1) := by funext k; simp; omega
    rw [e3, e1, e1, e2 _ (by omega), e2 _ (by omega), List.range_succ, List.filter_append, List.map_append, List.sum_append_int]
    congr 1
    by_cases h : Q i = true
    · simp [h]
    · simp [h]
  have hb : (breaksN m).filter P = (List.range m.length).filter fun k => decide (m.getD k 0 ≠ (0 :: m).getD k 0) && P k := by
    unfold breaksN
    rw [List.filter_filter]
    congr 1
    funext k
    rw [Bool.and_comm]
  rw [hb, gen _ i m.length hi]
  have hm : (i ∈ breaksN m ∧ P i = true) ↔ (decide (m.getD i 0 ≠ (0 :: m).getD i 0) && P i) = true := by
    rw [mem_breaksN, Bool.and_eq_true, decide_eq_true_eq]
    exact ⟨fun h => ⟨h.1.2, h.2⟩, fun h => ⟨⟨hi, h.1⟩, h.2⟩⟩
  cases i with
  | zero =>
    rw [if_pos rfl]
    have : ((List.range m.length).filter fun k => decide (m.getD k 0 ≠ (0 :: m).getD k 0) && P k).filter (fun k => decide (k < 0)) = [] := by
      rw [List.filter_eq_nil_iff]; simp
    rw [this]
    simp only [List.map_nil, List.sum_nil]
    rw [if_cg hm]; omega
  | succ i =>
    have z0 : ¬ (i + 1 = 0) := by omega
    rw [if_neg z0]
    have e3 : (fun k : Nat => decide (k < i + 1)) = fun k => decide (k ≤ i + 1 - 1) := by funext k; simp; omega
    rw [e3, if_cg hm]; omega
/-- what the plan adds at each place -/
theorem plan_eff (m : List Int) : ∀ i, i < m.length → ((planZ m).map fun c => eff m.length c i).sum = m.getD i 0 := by
  have hP := retZ_P m
  have split : ∀ i, i < m.length → ((planZ m).map fun c => eff m.length c i).sum = ((retZ m).map (oneE m i)).sum + ((((breaksN m).filter fun k => decide (k ∉ insideZ (retZ m))).filter fun k => decide (k ≤ i)).map fun k => (stepsZ m).getD k 0).sum := by
    intro i hi
    unfold planZ followsOf
    rw [List.map_append, List.sum_append_int, sum_flat, List.map_map]
    congr 1
    · congr 1
      refine List.map_congr_left fun p hp => ones_eff m m.length i p (hP.mem hp).2.1
    · exact sum_follow m.length i hi _ _
  intro i
  induction i with
  | zero =>
    intro hi
    rw [split 0 hi]
    have a1 := follow_step m (fun k => decide (k ∉ insideZ (retZ m))) (fun k => (stepsZ m).getD k 0) 0 hi
    rw [if_pos rfl] at a1
    have a2 : ((retZ m).map (oneE m 0)).sum = if 0 ∈ insideZ (retZ m) then m.getD 0 0 - (0 :: m).getD 0 0 else 0 := by
      rw [← sum_apart (v := m.getD 0 0 - (0 :: m).getD 0 0) hP]
      congr 1
      refine List.map_congr_left fun p hp => ?_
      obtain ⟨_, q1, _, _, q2⟩ := hP.mem hp
      have := oneE_step m 0 p q1 q2
      rw [if_pos rfl] at this
      omega
    rw [a2]
    have hs := steps_at hi
    simp only [decide_not] at a1 ⊢
    by_cases h : 0 ∈ insideZ (retZ m)
    · rw [if_pos h]
      rw [if_neg (by simp [h])] at a1
      rw [show (0 :: m).getD 0 0 = 0 from rfl]
      omega
    · rw [if_neg h]
      by_cases hb : 0 ∈ breaksN m
      · rw [if_pos ⟨hb, by simp [h]⟩, hs, show (0 :: m).getD 0 0 = 0 from rfl] at a1
        omega
      · rw [if_neg (fun q => hb q.1)] at a1
        have : ¬ (m.getD 0 0 ≠ (0 :: m).getD 0 0) := fun q => hb (mem_breaksN.mpr ⟨hi, q⟩)
        rw [show (0 :: m).getD 0 0 = 0 from rfl] at this
        omega
  | succ i ih =>
    intro hi
    have ih := ih (by omega)
    rw [split _ (by omega)] at ih
    rw [split _ hi]
    have a1 := follow_step m (fun k => decide (k ∉ insideZ (retZ m))) (fun k => (stepsZ m).getD k 0) (i + 1) hi
    have z0 : ¬ (i + 1 = 0) := by omega
    rw [if_neg z0, Nat.add_sub_cancel] at a1
    have a2 : ((retZ m).map (oneE m (i + 1))).sum - ((retZ m).map (oneE m i)).sum = if i + 1 ∈ insideZ (retZ m) then m.getD (i + 1) 0 - (0 :: m).getD (i + 1) 0 else 0 := by
      rw [sum_sub, ← sum_apart (v := m.getD (i + 1) 0 - (0 :: m).getD (i + 1) 0) hP]
      congr 1
      refine List.map_congr_left fun p hp => ?_
      obtain ⟨_, q1, _, _, q2⟩ := hP.mem hp
      have := oneE_step m (i + 1) p q1 q2
      rw [if_neg z0, Nat.add_sub_cancel] at this
      exact this
    have hs := steps_at hi
    rw [prevS] at a2 hs
    by_cases h : i + 1 ∈ insideZ (retZ m)
    · rw [if_pos h] at a2
      rw [if_neg (by simp [h])] at a1
      omega
    · rw [if_neg h] at a2
      by_cases hb : i + 1 ∈ breaksN m
      · rw [if_pos ⟨hb, by simp [h]⟩, hs] at a1
        omega
      · rw [if_neg (fun q => hb q.1)] at a1
        have : ¬ (m.getD (i + 1) 0 ≠ (0 :: m).getD (i + 1) 0) := fun q => hb (mem_breaksN.mpr ⟨hi, q⟩)
        rw [prevS] at this
        omega
/-- the plan leads from a to the moved row -/
theorem plan_leads (a m : List Int) (h : m.length = a.length) : lastZ a (planZ m) = movedZ a m := by
  apply ext_getD
  · rw [lastZ_len, moved_len a m h]
  · intro i hi
    rw [lastZ_len] at hi
    rw [lastZ_get _ _ hi, ← h, plan_eff m i (by omega)]
    have z : (a.zip m)[i]? = some (a[i], m[i]'(by omega)) := by
      rw [List.getElem?_eq_getElem (by simp; omega)]
      simp
    simp [movedZ, List.getD, z, hi, show i < m.length by omega]
theorem inside_len {m : List Int} : ∀ {ps : List (Nat × Nat)} {lo : Nat}, RetP m lo ps → (insideZ ps).length = (ps.flatMap (onesOf m)).length + ps.length
  | [], _, _ => rfl
  | p :: r, lo, ⟨a, b, c, d, e, f⟩ => by
    have := inside_len f
    simp only [insideZ, List.flatMap_cons, List.length_append, List.length_cons] at this ⊢
    rw [this]
    simp only [placesOf, onesOf, List.length_range', List.length_map]
    omega
theorem inside_nodup {m : List Int} : ∀ {ps : List (Nat × Nat)} {lo : Nat}, RetP m lo ps → (insideZ ps).Nodup
  | [], _, _ => .nil
  | p :: r, lo, ⟨a, b, c, d, e, f⟩ => by
    simp only [insideZ, List.flatMap_cons]
    refine List.nodup_append.mpr ⟨List.nodup_range', inside_nodup f, fun x hx y hy => ?_⟩
    rintro rfl
    obtain ⟨q, hq, h1, h2⟩ := mem_inside.mp hy
    have := (f.mem hq).1
    simp only [placesOf, List.mem_range'_1] at hx
    omega
theorem plan_len (m : List Int) : ((planZ m).length : Int) = fewestZ m := by
  have hP := retZ_P m
  have e1 : (breaksZ m).length = (breaksN m).length := by rw [breaksZ_N]; simp [natsI]
  have nd : (breaksN m).Nodup := List.nodup_range.filter _
  have e2 : ((breaksN m).filter fun k => decide (k ∈ insideZ (retZ m))).length = (insideZ (retZ m)).length := by
    apply List.Perm.length_eq
    refine (List.perm_ext_iff_of_nodup (nd.filter _) (inside_nodup hP)).mpr fun k => ?_
    simp only [List.mem_filter, decide_eq_true_eq]
    constructor
    · exact fun h => h.2
    · intro h
      obtain ⟨p, hp, h1, h2⟩ := mem_inside.mp h
      obtain ⟨_, _, q3, q4, _⟩ := hP.mem hp
      exact ⟨mem_breaksN.mpr ⟨by omega, q4 k h1 h2⟩, h⟩
  have e3 : (breaksN m).length = ((breaksN m).filter fun k => decide (k ∈ insideZ (retZ m))).length + ((breaksN m).filter fun k => decide (k ∉ insideZ (retZ m))).length := by
    generalize insideZ (retZ m) = I
    generalize breaksN m = B
    induction B with
    | nil => rfl
    | cons b B ih =>
      by_cases h : b ∈ I
      · simp [h] at ih ⊢; omega
      · simp [h] at ih ⊢; omega
  have e4 := inside_len hP
  unfold fewestZ
  rw [e1, e3, e2, e4]
  simp only [planZ, followsOf, List.length_append, List.length_map]
  omega
end Cap
set_option Elab.async false
set_option linter.all false
set_option maxRecDepth 100000
set_option maxHeartbeats 2000000
namespace Cap
open PySem PySem.Spec L2 Mi
theorem forL_rel {α β : Type} {t : Tgt} {f : Rho → SR} (g : β → D) (R : α → Rho → Prop) (step : α → β → α) : ∀ (xs : List β) (a : α) (ρ : Rho), (∀ a x ρ, x ∈ xs → R a ρ → ∃ ρ1 ρ2, t.put (g x) ρ = some ρ1 ∧ (f ρ1 = .nx ρ2 ∨ f ρ1 = .ct ρ2) ∧ R (step a x) ρ2) → R a ρ →
    ∃ ρ', forL t f (xs.map g) ρ = .nx ρ' ∧ R (xs.foldl step a) ρ'
  | [], a, ρ, _, h => ⟨ρ, rfl, h⟩
  | x :: xs, a, ρ, hs, h => by
    obtain ⟨ρ1, ρ2, e1, e2, e3⟩ := hs a x ρ (by simp) h
    obtain ⟨ρ', h1, h2⟩ := forL_rel g R step xs (step a x) ρ2 (fun a y ρ hy => hs a y ρ (by simp [hy])) e3
    refine ⟨ρ', ?_, h2⟩
    rcases e2 with e2 | e2 <;> simp [forL, e1, e2, h1]
/-- the same, a bound kept: P holds of what is folded -/
theorem forL_rel' {α β : Type} {t : Tgt} {f : Rho → SR} (g : β → D) (R : α → Rho → Prop) (step : α → β → α) (P : Nat → α → Prop) : ∀ (xs : List β) (k : Nat) (a : α) (ρ : Rho), (∀ k a x ρ, x ∈ xs → P (k + 1) a → R a ρ → ∃ ρ1 ρ2, t.put (g x) ρ = some ρ1 ∧ (f ρ1 = .nx ρ2 ∨ f ρ1 = .ct ρ2) ∧ R (step a x) ρ2) → (∀ k a x, x ∈ xs → P (k + 1) a → P k (step a x)) → P (k + xs.length) a → R a ρ →
    ∃ ρ', forL t f (xs.map g) ρ = .nx ρ' ∧ R (xs.foldl step a) ρ' ∧ P k (xs.foldl step a)
  | [], k, a, ρ, _, _, hp, h => ⟨ρ, rfl, h, hp⟩
  | x :: xs, k, a, ρ, hs, hP, hp, h => by
    rw [List.length_cons, ← Nat.add_assoc] at hp
    obtain ⟨ρ1, ρ2, e1, e2, e3⟩ := hs _ a x ρ (by simp) hp h
    obtain ⟨ρ', h1, h2, h3⟩ := forL_rel' g R step P xs k (step a x) ρ2 (fun k a y ρ hy => hs k a y ρ (by simp [hy])) (fun k a y hy => hP k a y (by simp [hy])) (hP _ a x (by simp) hp) e3
    refine ⟨ρ', ?_, h2, h3⟩
    rcases e2 with e2 | e2 <;> simp [forL, e1, e2, h1]
theorem law_last_ok (a : List Int) (cs : List Cmd) (ha : a.length ≤ 1000000) (h : ∀ c ∈ cs, 0 ≤ c.p ∧ c.p < a.length) : F__law_last [] [.tuple (intsD a), .tuple (cmdsD cs)] = .ok (.tuple (intsD (lastZ a cs))) [] := by
  obtain ⟨ρ', e, hl, s2, rfl⟩ := forL_rel (t := .name 2) (f := L1__law_last) Cmd.d (fun b ρ => b.length = a.length ∧ ∃ s2, ρ = [.fz (.tuple (intsD b)), .fz (.tuple (cmdsD cs)), s2]) (fun b c => afterZ b c) cs a [.fz (.tuple (intsD a)), .fz (.tuple (cmdsD cs)), .un] (by
    rintro b c ρ hc ⟨hb, s2, rfl⟩
    obtain ⟨h0, h1⟩ := h c hc
    have e := law_after_ok b c h0 (by omega) (by omega)
    exact ⟨_, [.fz (.tuple (intsD (afterZ b c))), .fz (.tuple (cmdsD cs)), .fz c.d], rfl, .inl (by simp [L1__law_last, e]), by rw [afterZ_len, hb], _, rfl⟩) ⟨rfl, _, rfl⟩
  have e : forL (.name 2) L1__law_last (cmdsD cs) _ = _ := e
  simp [F__law_last, M__law_last, e]
  rfl
theorem rngD_range2 (a n : Nat) : rngD (a : Int) n = intsD (natsI (List.range' a n)) := by rw [rngD_nat]; simp [intsD, natsI]
theorem in_nats (k : Nat) (K : List Nat) (neg : Bool) : inD neg (.int k) (.list (intsD (natsI K))) = some (.bool (if neg then !decide (k ∈ K) else decide (k ∈ K))) := by
  have e1 : inOk (.int k) (intsD (natsI K)) = true := by
    unfold inOk
    rw [plainAll_ints, depthAll_ints]
    simp [PyData.plain, PyData.depth]
  have e2 : ((intsD (natsI K)).any fun y => PyData.eqv y (.int k)) = decide (k ∈ K) := by
    induction K with
    | nil => simp [intsD, natsI]
    | cons x K ih =>
      have ih : ((intsD (natsI K)).any fun y => PyData.eqv y (.int k)) = decide (k ∈ K) := by
        apply ih
        unfold inOk
        rw [plainAll_ints, depthAll_ints]
        simp [PyData.plain, PyData.depth]
      rw [natsI_cons, intsD_cons, List.any_cons, ih]
      by_cases q : x = k
      · subst q; simp [PyData.eqv]
      · have q2 : ¬ k = x := fun z => q z.symm
        simp [PyData.eqv, q, q2]
        omega
  simp only [inD, e1, e2, if_true]
theorem natsI_app (a b : List Nat) : natsI (a ++ b) = natsI a ++ natsI b := by simp [natsI]
theorem cmdsD_app (a b : List Cmd) : cmdsD (a ++ b) = cmdsD a ++ cmdsD b := by simp [cmdsD]
theorem cmdsD_len (a : List Cmd) : (cmdsD a).length = a.length := by simp [cmdsD]
theorem plan_turn (m : List Int) (hm : m.length ≤ 1000) (p : Nat × Nat) (h1 : p.1 < p.2) (h2 : p.2 < m.length) (I : List Nat) (C : List Cmd) (hI : I.length ≤ 990000) (hC : C.length ≤ 990000) (s6 : Slot) :
    L1_script_for [.fz (.list (intsD m)), .fz (.list (intsD (0 :: m))), .ow (.list (intsD (natsI I))), .ow (.list (cmdsD C)), .fz (.int p.1), .fz (.int p.2), s6, .un] =
      .nx [.fz (.list (intsD m)), .fz (.list (intsD (0 :: m))), .ow (.list (intsD (natsI (I ++ placesOf p)))), .ow (.list (cmdsD (C ++ onesOf m p))), .fz (.int p.1), .fz (.int p.2), s6, .un] := by
  have r1 : lrg2 (.int p.1) (.int ((p.2 : Int) + 1)) = some (.list (intsD (natsI (placesOf p)))) := by
    rw [e_lrg2, if_pos (by omega), show ((p.2 : Int) + 1 - p.1).toNat = p.2 + 1 - p.1 by omega, rngD_range2]
    rfl
  have r2 : rng2 [.int p.1, .int p.2] = some ((List.range' p.1 (p.2 - p.1)).map fun i => .int (i : Nat)) := by
    rw [e_rng2, if_pos (by omega), show ((p.2 : Int) - p.1).toNat = p.2 - p.1 by omega, rngD_nat]
  have l1 : (natsI I).length + (natsI (placesOf p)).length ≤ 1000000 := by simp [natsI, placesOf]; omega
  have l2 : (cmdsD C).length + (onesOf m p).length ≤ 1000000 := by simp [cmdsD, onesOf]; omega
  have l3 : p.2 - p.1 ≤ 1000000 := by omega
  have c1 := lcL_1 (v := 7) (fe := C1_script_for) (ρ := [.fz (.list (intsD m)), .fz (.list (intsD (0 :: m))), .ow (.list (intsD (natsI (I ++ placesOf p)))), .ow (.list (cmdsD C)), .fz (.int p.1), .fz (.int p.2), s6, .un]) rfl
    (fun k : Nat => .int (k : Int)) (fun k : Nat => (⟨true, (k : Int), m.getD k 0 - (0 :: m).getD p.1 0⟩ : Cmd).d) (List.range' p.1 (p.2 - p.1)) (by
      intro k hk
      have hk := List.mem_range'_1.mp hk
      have a1 := atI_ints (xs := m) (i := k) (by omega)
      have a2 := atI_ints (xs := 0 :: m) (i := p.1) (by simp; omega)
      simp [C1_script_for, a1, a2, Cmd.d, word, -List.getD_eq_getElem?_getD])
  rw [natsI_app, intsD_app] at c1
  have l1' : I.length + (placesOf p).length ≤ 1000000 := by simpa [natsI] using l1
  have l2' : C.length + (p.2 - p.1) ≤ 1000000 := by simpa [cmdsD, onesOf] using l2
  simp [L1_script_for, r1, r2, l1', l2', l3, c1, -e_lrg2, -e_rng2, intsD_app, natsI_app, cmdsD_app, natsI_len, cmdsD_len, -List.getD_eq_getElem?_getD]
  simp [cmdsD, onesOf]
theorem nodup_len {L : List Nat} {n : Nat} (nd : L.Nodup) (h : ∀ k ∈ L, k < n) : L.length ≤ n := by
  have : ((List.range n).filter fun k => decide (k ∈ L)).Perm L := (List.perm_ext_iff_of_nodup (List.nodup_range.filter _) nd).mpr fun k => by
    simp only [List.mem_filter, List.mem_range, decide_eq_true_eq]
    exact ⟨fun q => q.2, fun q => ⟨h k q, q⟩⟩
  rw [← this.length_eq]
  have := List.length_filter_le (fun k => decide (k ∈ L)) (List.range n)
  simpa using this
theorem ones_len (m : List Int) (ps : List (Nat × Nat)) {lo : Nat} (h : RetP m lo ps) : (ps.flatMap (onesOf m)).length + ps.length ≤ m.length := by
  rw [← inside_len h]
  refine nodup_len (inside_nodup h) fun k hk => ?_
  obtain ⟨p, hp, h1, h2⟩ := mem_inside.mp hk
  have := (h.mem hp).2.2.1
  omega
theorem foldl_two {α β γ : Type} (f : α → List β) (g : α → List γ) : ∀ (ps : List α) (I : List β) (C : List γ), ps.foldl (fun a p => (a.1 ++ f p, a.2 ++ g p)) (I, C) = (I ++ ps.flatMap f, C ++ ps.flatMap g)
  | [], I, C => by simp
  | p :: ps, I, C => by
    rw [List.foldl_cons, foldl_two f g ps]
    simp
theorem script_for_ok (m : List Int) (hm : m.length ≤ 900) : F_script_for [] [.list (intsD m)] = .ok (.tuple (cmdsD (planZ m))) [] := by
  have hP := retZ_P m
  have hol := ones_len m (retZ m) hP
  have hil := inside_len hP
  obtain ⟨ρ', e, ⟨s4, s5, rfl⟩, q1, q2⟩ := forL_rel' (t := .tup [4, 5]) (f := L1_script_for) (fun p : Nat × Nat => .tuple [.int (p.1 : Nat), .int (p.2 : Nat)])
    (fun (a : List Nat × List Cmd) ρ => ∃ s4 s5, ρ = [.fz (.list (intsD m)), .fz (.list (intsD (0 :: m))), .ow (.list (intsD (natsI a.1))), .ow (.list (cmdsD a.2)), s4, s5, .un, .un]) (fun a p => (a.1 ++ placesOf p, a.2 ++ onesOf m p))
    (fun k a => a.1.length + 1001 * k ≤ 980000 ∧ a.2.length + 1001 * k ≤ 980000) (retZ m) 0 ([], []) [.fz (.list (intsD m)), .fz (.list (intsD (0 :: m))), .ow (.list []), .ow (.list []), .un, .un, .un, .un] (by
      rintro k ⟨I, C⟩ p ρ hp ⟨b1, b2⟩ ⟨s4, s5, rfl⟩
      obtain ⟨_, p1, p2, _, _⟩ := hP.mem hp
      exact ⟨_, _, rfl, .inl (plan_turn m (by omega) p p1 p2 I C (by dsimp only at b1; omega) (by dsimp only at b2; omega) .un), _, _, rfl⟩) (by
      rintro k ⟨I, C⟩ p hp ⟨b1, b2⟩
      obtain ⟨_, p1, p2, _, _⟩ := hP.mem hp
      simp only [List.length_append, placesOf, onesOf, List.length_range', List.length_map] at b1 b2 ⊢
      omega) (by simp; omega) ⟨_, _, rfl⟩
  rw [foldl_two] at e q1 q2
  simp only [List.nil_append] at e q1 q2
  have e : forL (.tup [4, 5]) L1_script_for (pairsD (retZ m)) _ = _ := e
  rw [show (retZ m).flatMap placesOf = insideZ (retZ m) from rfl] at e
  have c1 := lcL_1f (v := 7) (ft := T1_script_for) (fe := C2_script_for) (ρ := [.fz (.list (intsD m)), .fz (.list (intsD (0 :: m))), .ow (.list (intsD (natsI (insideZ (retZ m))))), .ow (.list (cmdsD ((retZ m).flatMap (onesOf m)))), s4, s5, .fz (.list (intsD (stepsZ m))), .un]) rfl
    (fun k : Nat => .int (k : Int)) (fun k : Nat => (⟨false, (k : Int), (stepsZ m).getD k 0⟩ : Cmd).d) (fun k => decide (k ∉ insideZ (retZ m))) (breaksN m) (by
      intro k hk
      simp [T1_script_for, in_nats]) (by
      intro k hk _
      have hk := mem_breaksN.mp hk
      have a1 := atI_ints (xs := stepsZ m) (i := k) (by rw [stepsZ_len]; exact hk.1)
      simp [C2_script_for, a1, Cmd.d, word, -List.getD_eq_getElem?_getD])
  have hb : (breaksN m).length ≤ m.length := nodup_len (List.nodup_range.filter _) fun k hk => (mem_breaksN.mp hk).1
  have l1 : (breaksN m).length ≤ 1000000 := by omega
  have l2 : 1 + m.length ≤ 1000000 := by omega
  have l3 : ((retZ m).flatMap (onesOf m)).length + ((breaksN m).filter fun k => decide (k ∉ insideZ (retZ m))).length ≤ 1000000 := by
    have := List.length_filter_le (fun k => decide (k ∉ insideZ (retZ m))) (breaksN m)
    omega
  have z1 : intsD (breaksZ m) = (breaksN m).map fun k : Nat => .int (k : Int) := by rw [breaksZ_N]; simp [intsD, natsI]
  have z2 : cmdsD (planZ m) = cmdsD ((retZ m).flatMap (onesOf m)) ++ (((breaksN m).filter fun k => decide (k ∉ insideZ (retZ m))).map fun k : Nat => (⟨false, (k : Int), (stepsZ m).getD k 0⟩ : Cmd).d) := by
    simp [planZ, followsOf, cmdsD]
  rw [z2]
  have l3' : (cmdsD ((retZ m).flatMap (onesOf m))).length + ((breaksN m).filter fun k => decide (k ∉ insideZ (retZ m))).length ≤ 1000000 := by rw [cmdsD_len]; exact l3
  simp only [decide_not] at l3' c1 ⊢
  simp only [F_script_for, M_script_for, e_runF, e_startR, e_mSeq]
  simp [l2, returns_of_ok m (by omega), -List.getD_eq_getElem?_getD]
  rw [← intsD_cons]
  rw [e]
  simp [steps_of_ok m (by omega), breaks_of_ok m (by omega), z1, l1, c1, l3', -List.getD_eq_getElem?_getD]
theorem plan_fn (a b : List Int) (h : GoodT a) (k : GoodT b) (hl : b.length = a.length) : F_plan [] [.tuple (intsD a), .tuple (intsD b)] = .ok (.tuple (cmdsD (planZ (shiftsZ a b)))) [] := by
  have := h.2.1
  simp [F_plan, M_plan, require_rows_ok a b h k hl, shifts_of_ok a b (by omega), script_for_ok (shiftsZ a b) (by rw [shiftsZ_len]; omega)]
theorem plan_places (m : List Int) : ∀ c ∈ planZ m, 0 ≤ c.p ∧ c.p < m.length := by
  intro c hc
  rcases List.mem_append.mp hc with hc | hc
  · obtain ⟨p, hp, hc⟩ := List.mem_flatMap.mp hc
    obtain ⟨_, _, p3, _, _⟩ := (retZ_P m).mem hp
    simp only [onesOf, List.mem_map, List.mem_range'_1] at hc
    obtain ⟨k, hk, rfl⟩ := hc
    exact ⟨by show (0 : Int) ≤ k; omega, by show (k : Int) < _; omega⟩
  · simp only [followsOf, List.mem_map, List.mem_filter] at hc
    obtain ⟨k, ⟨hk, _⟩, rfl⟩ := hc
    have := (mem_breaksN.mp hk).1
    exact ⟨by show (0 : Int) ≤ k; omega, by show (k : Int) < _; omega⟩
end Cap
set_option Elab.async false
set_option linter.all false
set_option maxRecDepth 100000
set_option maxHeartbeats 2000000
namespace Cap
open PySem PySem.Spec L2 Mi
theorem cut_nn {α : Type} (xs : List α) (k : Nat) : cut xs none (some (k : Int)) = xs.take k := by
  unfold cut
  rw [HT.sIx_nat]
  simp [HT.sIx, List.take_eq_take_iff]
theorem cut_sn {α : Type} (xs : List α) (l : Nat) : cut xs (some (l : Int)) none = xs.drop l := by
  unfold cut
  rw [HT.sIx_nat]
  simp only [HT.sIx]
  by_cases h : l ≤ xs.length
  · rw [Nat.min_eq_left h, List.take_of_length_le (by simp)]
  · rw [Nat.min_eq_right (by omega), List.drop_eq_nil_of_le (Nat.le_refl _), List.drop_eq_nil_of_le (by omega)]; simp
theorem cut_ss {α : Type} (xs : List α) (l h : Nat) (h1 : l ≤ h) (h2 : h ≤ xs.length) : cut xs (some (l : Int)) (some (h : Int)) = (xs.drop l).take (h - l) := by
  unfold cut
  rw [HT.sIx_nat, HT.sIx_nat, Nat.min_eq_left h2, Nat.min_eq_left (Nat.le_trans h1 h2)]
theorem e_maxI (ns : List Int) (h : ns ≠ []) : maxD [.list (intsD ns)] = some (.int (maxOf ns)) := by
  cases ns with
  | nil => exact absurd rfl h
  | cons n r => simp [maxD, intsOf_ints]
def cntZ (xs : List Int) (v : Int) : Int := ((xs.filter fun o => decide (o = v)).length : Nat)
def alikeZ (xs : List Int) (f : Bool) : Int := if f then cntZ xs 0 else maxOf (0 :: xs.map (cntZ xs))
theorem law_alike_ok (xs : List Int) (f : Bool) (h : xs.length ≤ 1000) : F__law_alike [] [.list (intsD xs), .bool f] = .ok (.int (alikeZ xs f)) [] := by
  have hl : xs.length ≤ 1000000 := by omega
  cases f with
  | true =>
    have c := lcL_1f (v := 2) (ft := T1__law_alike) (fe := C1__law_alike) (ρ := [.fz (.list (intsD xs)), .fz (.bool true), .un, .un]) rfl (fun x : Int => .int x) (fun x => .int x) (fun x => decide (x = 0)) xs (by simp [T1__law_alike]) (by simp [C1__law_alike])
    have c : lcL [2] (.name 2) T1__law_alike C1__law_alike (intsD xs) _ = _ := c
    simp [F__law_alike, M__law_alike, hl, c, alikeZ, cntZ]
  | false =>
    have inner : ∀ y : Int, lcL [2] (.name 2) T2__law_alike C1__law_alike (intsD xs) [.fz (.list (intsD xs)), .fz (.bool false), .un, .fz (.int y)] = .ok (intsD (xs.filter fun o => decide (o = y))) [.fz (.list (intsD xs)), .fz (.bool false), .un, .fz (.int y)] := fun y =>
      lcL_1f (v := 2) (ft := T2__law_alike) (fe := C1__law_alike) (ρ := [.fz (.list (intsD xs)), .fz (.bool false), .un, .fz (.int y)]) rfl (fun x : Int => .int x) (fun x => .int x) (fun x => decide (x = y)) xs (by simp [T2__law_alike]) (by simp [C1__law_alike])
    have c := lcL_1 (v := 3) (fe := C2__law_alike) (ρ := [.fz (.list (intsD xs)), .fz (.bool false), .un, .un]) rfl (fun x : Int => .int x) (fun x => .int (cntZ xs x)) xs (by
      intro y hy
      simp [C2__law_alike, inner, hl, cntZ])
    have c : lcL [3] (.name 3) mYes C2__law_alike (intsD xs) _ = _ := c
    have z : (xs.map fun x => (.int (cntZ xs x) : D)) = intsD (xs.map (cntZ xs)) := by simp [intsD]
    have l2 : 1 + xs.length ≤ 1000000 := by omega
    have m1 : maxD [.list (.int 0 :: intsD (xs.map (cntZ xs)))] = some (.int (maxOf (0 :: xs.map (cntZ xs)))) := e_maxI (0 :: xs.map (cntZ xs)) (by simp)
    simp [F__law_alike, M__law_alike, hl, c, z, l2, m1, alikeZ]
theorem cntZ_nonneg (xs : List Int) (v : Int) : 0 ≤ cntZ xs v := by unfold cntZ; omega
/-- how many a base misses is the length less how many are alike -/
theorem cnt_mis (xs : List Int) (y : Int) : ((exact xs).map fun r => mis r y).sum = (xs.length : Int) - cntZ xs y := by
  induction xs with
  | nil => simp [exact, cntZ]
  | cons x xs ih =>
    simp only [exact, List.map_cons, List.sum_cons, List.map_map, cntZ, List.filter_cons, mis_exact] at ih ⊢
    by_cases h : x = y
    · simp [h] at ih ⊢; omega
    · simp [h] at ih ⊢; omega
theorem misses_exact (m : List Int) (y : Int) (low high : Nat) (h1 : low ≤ high) (h2 : high ≤ m.length) : misses (exact m) y low high = (high : Int) - low - cntZ ((m.drop low).take (high - low)) y := by
  have e : ((exact m).drop low).take (high - low) = exact ((m.drop low).take (high - low)) := by simp [exact, List.map_drop, List.map_take]
  unfold misses
  rw [e, cnt_mis]
  simp
  omega
theorem alike_le (xs : List Int) (f : Bool) (y : Int) (h : f = true → y = 0) : cntZ xs y ≤ alikeZ xs f := by
  unfold alikeZ
  cases f with
  | true => rw [h rfl]; simp
  | false =>
    simp only [Bool.false_eq_true, if_false]
    obtain ⟨_, h2⟩ := maxOf_is (ns := 0 :: xs.map (cntZ xs)) (by simp)
    by_cases hy : y ∈ xs
    · exact h2 _ (by simp; exact .inr ⟨y, hy, rfl⟩)
    · have : cntZ xs y = 0 := by
        unfold cntZ
        rw [List.filter_eq_nil_iff.mpr]
        · rfl
        · intro a ha; simp; rintro rfl; exact hy ha
      rw [this]
      exact h2 0 (by simp)
theorem alike_got (xs : List Int) (f : Bool) : ∃ y, (f = true → y = 0) ∧ alikeZ xs f = cntZ xs y := by
  unfold alikeZ
  cases f with
  | true => exact ⟨0, fun _ => rfl, by simp⟩
  | false =>
    simp only [Bool.false_eq_true, if_false]
    obtain ⟨h1, h2⟩ := maxOf_is (ns := 0 :: xs.map (cntZ xs)) (by simp)
    rcases List.mem_cons.mp h1 with h | h
    · cases xs with
      | nil => exact ⟨0, by simp, by simp [cntZ, maxOf]⟩
      | cons x xs =>
        exfalso
        have := h2 (cntZ (x :: xs) x) (by simp)
        rw [h] at this
        simp [cntZ] at this
        omega
    · obtain ⟨y, hy, e⟩ := List.mem_map.mp h
      exact ⟨y, by simp, e.symm⟩
def partZ (m : List Int) (ps : Int) (f : Bool) (low high : Nat) : Int := ps * ((high : Int) - low - alikeZ ((m.drop low).take (high - low)) f)
theorem part_exact (m : List Int) (ps : Int) (h : 0 ≤ ps) : Part ps (exact m) (partZ m ps) where
  low := fun f low high y h1 h2 hy => by
    have h2 : high ≤ m.length := by simpa [exact] using h2
    rw [misses_exact m y low high h1 h2]
    refine Int.mul_le_mul_of_nonneg_left ?_ h
    have := alike_le ((m.drop low).take (high - low)) f y hy
    omega
  got := fun f low high h1 h2 => by
    have h2 : high ≤ m.length := by simpa [exact] using h2
    obtain ⟨y, hy, e⟩ := alike_got ((m.drop low).take (high - low)) f
    exact ⟨y, hy, by rw [misses_exact m y low high h1 h2]; unfold partZ; rw [e]⟩
def cutsD (Cs : List (List Nat)) : List D := Cs.map fun C => .tuple (intsD (natsI C))
theorem cutsZ_len : ∀ n, (cutsZ n).length = 2 ^ n
  | 0 => rfl
  | n + 1 => by simp [cutsZ, cutsZ_len n, Nat.pow_succ]; omega
theorem cuts_short {n : Nat} {C : List Nat} (h : C ∈ cutsZ n) : C.length ≤ n := by
  obtain ⟨h1, h2⟩ := mem_cutsZ.mp h
  exact nodup_len (h1.imp fun q => by omega) h2
theorem cuts_turn (n j : Nat) (hj : j < 12) : L1__law_cuts [.fz (.int n), .fz (.list (cutsD (cutsZ j))), .fz (.int j), .un] = .nx [.fz (.int n), .fz (.list (cutsD (cutsZ (j + 1)))), .fz (.int j), .un] := by
  have hp : 2 ^ j ≤ 2 ^ 11 := Nat.pow_le_pow_right (by omega) (by omega)
  have c := lcL_1 (v := 3) (fe := C1__law_cuts) (ρ := [.fz (.int n), .fz (.list (cutsD (cutsZ j))), .fz (.int j), .un]) rfl (fun C : List Nat => .tuple (intsD (natsI C))) (fun C => .tuple (intsD (natsI (C ++ [j])))) (cutsZ j) (by
    intro C hC
    have := cuts_short hC
    have l : C.length + 1 ≤ 1000000 := by omega
    simp [C1__law_cuts, natsI_len, l, natsI_app, intsD_app]
    simp [natsI, intsD])
  have c : lcL [3] (.name 3) mYes C1__law_cuts (cutsD (cutsZ j)) _ = _ := c
  have l1 : (cutsD (cutsZ j)).length ≤ 1000000 := by simp [cutsD, cutsZ_len]; omega
  have l2 : (cutsD (cutsZ j)).length + (cutsZ j).length ≤ 1000000 := by simp [cutsD, cutsZ_len]; omega
  simp [L1__law_cuts, l1, c, l2]
  simp [cutsZ, cutsD]
theorem law_cuts_ok (n : Nat) (hn : n ≤ 12) : F__law_cuts [] [.int n] = .ok (.list (cutsD (cutsZ n))) [] := by
  have loop : ∀ (d j : Nat), j + d ≤ 12 → ∀ s : Slot, ∃ t, forL (.name 2) L1__law_cuts ((List.range' j d).map fun k => .int ((0 : Int) + (k : Nat))) [.fz (.int n), .fz (.list (cutsD (cutsZ j))), s, .un] = .nx [.fz (.int n), .fz (.list (cutsD (cutsZ (j + d)))), t, .un] := by
    intro d
    induction d with
    | zero => intro j _ s; exact ⟨s, rfl⟩
    | succ d ih =>
      intro j hj s
      obtain ⟨t, e⟩ := ih (j + 1) (by omega) (.fz (.int j))
      refine ⟨t, ?_⟩
      rw [List.range'_succ, List.map_cons]
      simp only [forL, e_putNm, List.set_cons_succ, List.set_cons_zero, Int.zero_add]
      rw [cuts_turn n j (by omega)]
      rw [show j + (d + 1) = j + 1 + d by omega]
      simpa using e
  obtain ⟨t, e⟩ := loop n 0 (by omega) .un
  rw [← rngD_range', Nat.zero_add] at e
  have r1 : rng1 [.int (n : Int)] = some (rngD 0 n) := by
    rw [e_rng1, if_pos (by omega)]
    rfl
  have e : forL (.name 2) L1__law_cuts (rngD 0 n) [.fz (.int n), .fz (.list [.tuple []]), .un, .un] = _ := e
  simp [F__law_cuts, M__law_cuts, r1, e, -e_rng1]
def consec (f : Nat → Nat → Int) : List Nat → Int
  | x :: y :: r => f x y + consec f (y :: r)
  | _ => 0
theorem price_consec (fol : Int) (part : Bool → Nat → Nat → Int) (n : Nat) : ∀ (C : List Nat) (f : Bool) (low : Nat), priceC fol part n f low C = part f low ((C ++ [n]).headD 0) + fol * (C.length : Int) + consec (part false) (C ++ [n])
  | [], f, low => by simp [priceC, consec]
  | c :: C, f, low => by
    rw [priceC, price_consec fol part n C false c]
    have : consec (part false) ((c :: C) ++ [n]) = part false c ((C ++ [n]).headD 0) + consec (part false) (C ++ [n]) := by
      cases C with
      | nil => simp [consec]
      | cons d C => simp [consec]
    rw [this]
    simp only [List.cons_append, List.headD_cons, List.length_cons]
    rw [show ((C.length + 1 : Nat) : Int) = (C.length : Int) + 1 by omega, Int.mul_add]
    omega
theorem least_part (m : List Int) (ps p : Int) (low high : Nat) (h1 : low ≤ high) (h2 : high ≤ m.length) (hm : m.length ≤ 1000) (hps : -(2 ^ 64) < ps ∧ ps < 2 ^ 64) (s1 s2 s3 s4 s5 s10 : Slot) :
    ∃ t, L1__law_least [.fz (.list (intsD m)), .fz (.int ps), s1, s2, s3, s4, s5, .fz (.int p), .fz (.int low), .fz (.int high), s10] = .nx [.fz (.list (intsD m)), .fz (.int ps), s1, s2, s3, s4, s5, .fz (.int (p + partZ m ps false low high)), .fz (.int low), .fz (.int high), t] := by
  have a := law_alike_ok ((m.drop low).take (high - low)) false (by simp; omega)
  refine ⟨.fz (.list (intsD ((m.drop low).take (high - low)))), ?_⟩
  have mm : mulA (.int ps) (.int (((high - low : Nat) : Int) - alikeZ ((m.drop low).take (high - low)) false)) = some (.int (ps * (((high - low : Nat) : Int) - alikeZ ((m.drop low).take (high - low)) false))) := e_mul' _ _ hps
  have ll : min (high - low) (m.length - low) = high - low := by omega
  simp [L1__law_least, cut_ints, cut_ss m low high h1 h2, a, ll, mm]
  unfold partZ
  rw [show ((high - low : Nat) : Int) = (high : Int) - low by omega]
theorem consec_loop (m : List Int) (ps : Int) (hm : m.length ≤ 1000) (hps : -(2 ^ 64) < ps ∧ ps < 2 ^ 64) (s1 s2 s3 s4 s5 : Slot) : ∀ (E : List Nat), E.Pairwise (· ≤ ·) → (∀ e ∈ E, e ≤ m.length) → ∀ (p : Int) (s8 s9 s10 : Slot),
    ∃ t8 t9 t10, forL (.tup [8, 9]) L1__law_least (zipD (intsD (natsI E)) (intsD (natsI (E.drop 1)))) [.fz (.list (intsD m)), .fz (.int ps), s1, s2, s3, s4, s5, .fz (.int p), s8, s9, s10] =
      .nx [.fz (.list (intsD m)), .fz (.int ps), s1, s2, s3, s4, s5, .fz (.int (p + consec (partZ m ps false) E)), t8, t9, t10]
  | [], _, _, p, s8, s9, s10 => ⟨s8, s9, s10, by simp [natsI, intsD, zipD, forL, consec]⟩
  | [x], _, _, p, s8, s9, s10 => ⟨s8, s9, s10, by simp [natsI, intsD, zipD, forL, consec]⟩
  | x :: y :: r, h, hE, p, s8, s9, s10 => by
    obtain ⟨h1, h2⟩ := List.pairwise_cons.mp h
    obtain ⟨t, e⟩ := least_part m ps p x y (h1 y (by simp)) (hE y (by simp)) hm hps s1 s2 s3 s4 s5 s10
    obtain ⟨t8, t9, t10, e2⟩ := consec_loop m ps hm hps s1 s2 s3 s4 s5 (y :: r) h2 (fun z hz => hE z (by simp [hz])) (p + partZ m ps false x y) (.fz (.int x)) (.fz (.int y)) t
    refine ⟨t8, t9, t10, ?_⟩
    have z : zipD (intsD (natsI (x :: y :: r))) (intsD (natsI ((x :: y :: r).drop 1))) = .tuple [.int x, .int y] :: zipD (intsD (natsI (y :: r))) (intsD (natsI ((y :: r).drop 1))) := by simp [zipD, intsD, natsI]
    rw [z]
    simp only [forL, e_putTup, List.length_cons, List.length_nil, if_true, e_setAll1, e_setAll0, List.set_cons_succ, List.set_cons_zero]
    rw [e]
    simp only [consec]
    rw [← Int.add_assoc]
    exact e2
def bestOf (b : Option Int) (v : Int) : Option Int := match b with
  | none => some v
  | some w => if v < w then some v else some w
def optD : Option Int → D
  | none => .none
  | some v => .int v
theorem least_turn (m : List Int) (ps pa : Int) (C : List Nat) (hC : C ∈ cutsZ m.length) (hm : m.length ≤ 1000) (hps : -(2 ^ 64) < ps ∧ ps < 2 ^ 64) (b : Option Int) (s5 s6 s7 s8 s9 s10 : Slot) :
    ∃ t5 t6 t7 t8 t9 t10, L2__law_least [.fz (.list (intsD m)), .fz (.int ps), .fz (.int pa), .fz (optD b), .fz (.tuple (intsD (natsI C))), s5, s6, s7, s8, s9, s10] =
      .nx [.fz (.list (intsD m)), .fz (.int ps), .fz (.int pa), .fz (optD (bestOf b (priceC pa (partZ m ps) m.length true 0 C))), .fz (.tuple (intsD (natsI C))), t5, t6, t7, t8, t9, t10] := by
  obtain ⟨c1, c2⟩ := mem_cutsZ.mp hC
  have hs := cuts_short hC
  have hE : (C ++ [m.length]).Pairwise (· ≤ ·) := List.pairwise_append.mpr ⟨c1.imp fun q => by omega, by simp, fun a ha b hb => by
    have hb : b = m.length := by simpa using hb
    have := c2 a ha
    omega⟩
  have hE2 : ∀ e ∈ C ++ [m.length], e ≤ m.length := fun e he => by
    rcases List.mem_append.mp he with he | he
    · have := c2 e he; omega
    · have : e = m.length := by simpa using he
      omega
  obtain ⟨h0, hh⟩ : ∃ h0 : Nat, (C ++ [m.length]).headD 0 = h0 := ⟨_, rfl⟩
  have hh1 : h0 ≤ m.length := by
    rw [← hh]
    cases C with
    | nil => simp
    | cons c C => have := c2 c (by simp); simp; omega
  have at0 : atI (intsD (natsI (C ++ [m.length]))) 0 = some (.int h0) := by
    rw [← hh]
    cases C with
    | nil => simp [natsI, intsD]
    | cons c C => simp [natsI, intsD]
  have a := law_alike_ok (m.take h0) true (by simp; omega)
  have tl : min h0 m.length = h0 := by omega
  have m1 : mulA (.int pa) (.int (C.length : Int)) = some (.int (pa * C.length)) := e_mul _ _ (by omega)
  have m2 : mulA (.int ps) (.int ((h0 : Int) - alikeZ (m.take h0) true)) = some (.int (ps * ((h0 : Int) - alikeZ (m.take h0) true))) := e_mul' _ _ hps
  have ct : cut (intsD (natsI (C ++ [m.length]))) (some 1) none = intsD (natsI ((C ++ [m.length]).drop 1)) := by
    have := cut_sn (intsD (natsI (C ++ [m.length]))) 1
    rw [show ((1 : Nat) : Int) = 1 from rfl] at this
    rw [this]
    simp [intsD, natsI]
  have l1 : C.length + 1 ≤ 1000000 := by omega
  obtain ⟨t8, t9, t10, e⟩ := consec_loop m ps hm hps (.fz (.int pa)) (.fz (optD b)) (.fz (.tuple (intsD (natsI C)))) (.fz (.list (intsD (natsI (C ++ [m.length]))))) (.fz (.list (intsD (m.take h0)))) (C ++ [m.length]) hE hE2 (pa * C.length + ps * ((h0 : Int) - alikeZ (m.take h0) true)) s8 s9 s10
  rw [List.drop_one] at e ct
  have pe : priceC pa (partZ m ps) m.length true 0 C = pa * C.length + ps * ((h0 : Int) - alikeZ (m.take h0) true) + consec (partZ m ps false) (C ++ [m.length]) := by
    rw [price_consec, hh]
    simp only [partZ, List.drop_zero, Nat.sub_zero]
    rw [show ((0 : Nat) : Int) = 0 from rfl, Int.sub_zero]
    omega
  rw [pe]
  refine ⟨.fz (.list (intsD (natsI (C ++ [m.length])))), .fz (.list (intsD (m.take h0))), .fz (.int (pa * C.length + ps * ((h0 : Int) - alikeZ (m.take h0) true) + consec (partZ m ps false) (C ++ [m.length]))), t8, t9, t10, ?_⟩
  have ends : intsD (natsI C) ++ [.int (m.length : Int)] = intsD (natsI (C ++ [m.length])) := by simp [natsI, intsD]
  simp [L2__law_least, natsI_len, l1, ends, at0, cut_ints, cut_nn, a, tl, m1, m2, ct, e]
  generalize pa * (C.length : Int) + ps * ((h0 : Int) - alikeZ (m.take h0) true) + consec (partZ m ps false) (C ++ [m.length]) = v
  cases b with
  | none => simp [optD, bestOf, isNoneD]
  | some w =>
    by_cases hv : v < w
    · simp [optD, bestOf, isNoneD, hv]
    · simp [optD, bestOf, isNoneD, hv]
theorem best_fold : ∀ (vs : List Int) (b : Option Int), vs ≠ [] ∨ b ≠ none → ∃ v, vs.foldl bestOf b = some v ∧ (v ∈ vs ∨ b = some v) ∧ (∀ w ∈ vs, v ≤ w) ∧ ∀ w, b = some w → v ≤ w
  | [], none, h => by simp at h
  | [], some w, _ => ⟨w, rfl, .inr rfl, by simp, fun u hu => by cases hu; omega⟩
  | x :: vs, b, _ => by
    have hne : vs ≠ [] ∨ bestOf b x ≠ none := .inr (by unfold bestOf; split <;> (try split) <;> simp)
    obtain ⟨v, e, h1, h2, h3⟩ := best_fold vs (bestOf b x) hne
    refine ⟨v, e, ?_, ?_, ?_⟩
    · rcases h1 with h1 | h1
      · exact .inl (by simp [h1])
      · unfold bestOf at h1
        split at h1
        · cases h1; exact .inl (by simp)
        · split at h1
          · cases h1; exact .inl (by simp)
          · exact .inr h1
    · intro w hw
      rcases List.mem_cons.mp hw with rfl | hw
      · unfold bestOf at h3
        split at h3
        · exact h3 _ rfl
        · split at h3
          · exact h3 _ rfl
          · have := h3 _ rfl; omega
      · exact h2 w hw
    · intro w hw
      subst hw
      simp only [bestOf] at h3
      split at h3
      · have := h3 _ rfl; omega
      · exact h3 _ rfl
theorem law_least_ok (m : List Int) (ps pa : Int) (hm : m.length ≤ 12) (hps : 0 ≤ ps ∧ ps < 2 ^ 64) (hpa : 0 ≤ pa) : ∃ v, F__law_least [] [.list (intsD m), .int ps, .int pa] = .ok (.int v) [] ∧ IsMin ps pa (exact m) v := by
  obtain ⟨ρ', e, t4, t5, t6, t7, t8, t9, t10, rfl⟩ := forL_rel (t := .name 4) (f := L2__law_least) (fun C : List Nat => .tuple (intsD (natsI C)))
    (fun b ρ => ∃ t4 t5 t6 t7 t8 t9 t10, ρ = [.fz (.list (intsD m)), .fz (.int ps), .fz (.int pa), .fz (optD b), t4, t5, t6, t7, t8, t9, t10]) (fun b C => bestOf b (priceC pa (partZ m ps) m.length true 0 C)) (cutsZ m.length) none
    [.fz (.list (intsD m)), .fz (.int ps), .fz (.int pa), .fz .none, .un, .un, .un, .un, .un, .un, .un] (by
      rintro b C ρ hC ⟨s4, s5, s6, s7, s8, s9, s10, rfl⟩
      obtain ⟨t5, t6, t7, t8, t9, t10, e⟩ := least_turn m ps pa C hC (by omega) ⟨by omega, hps.2⟩ b s5 s6 s7 s8 s9 s10
      exact ⟨_, _, rfl, .inl e, _, _, _, _, _, _, _, rfl⟩) ⟨_, _, _, _, _, _, _, rfl⟩
  have ne : cutsZ m.length ≠ [] := fun z => by
    have := cutsZ_len m.length
    rw [z] at this
    have h2 : 0 < 2 ^ m.length := Nat.pow_pos (by omega)
    simp at this
    omega
  obtain ⟨v, ev, h1, h2, _⟩ := best_fold ((cutsZ m.length).map fun C => priceC pa (partZ m ps) m.length true 0 C) none (.inl (by simp [ne]))
  rw [List.foldl_map] at ev
  rw [ev] at e
  have e : forL (.name 4) L2__law_least (cutsD (cutsZ m.length)) _ = _ := e
  have le : (exact m).length = m.length := by simp [exact]
  refine ⟨v, ?_, cuts_min (part_exact m ps hps.1) hps.1 hpa (fun C hC => ?_) ?_⟩
  · simp [F__law_least, M__law_least, law_cuts_ok m.length hm, e, optD]
  · rw [le] at hC ⊢
    exact h2 _ (List.mem_map_of_mem hC)
  · rw [le]
    rcases h1 with h1 | h1
    · obtain ⟨C, hC, e⟩ := List.mem_map.mp h1
      exact ⟨C, hC, e⟩
    · cases h1
end Cap
set_option Elab.async false
set_option linter.all false
set_option maxRecDepth 100000
set_option maxHeartbeats 2000000
namespace Cap
open PySem PySem.Spec L2 Mi
theorem ofI_ok {b : D} (hb : IsBag b) (xs : List Int) (h : xs ≠ []) (hl : xs.length ≤ 1000000) : ∃ x ∈ xs, ∃ b', F__law_of [b] [.list (intsD xs)] = .ok (.int x) [b'] ∧ IsBag b' := by
  obtain ⟨d, hd, b', e, hb'⟩ := of_ok hb (intsD xs) (by simpa [intsD] using h) (by simpa using hl)
  obtain ⟨x, hx, rfl⟩ := mem_intsD.mp hd
  exact ⟨x, hx, b', e, hb'⟩
/-- shifts and times of one length -/
structure RowG (own ts : List Int) (most : Nat) (W T : Int) : Prop where
  one : 1 ≤ own.length
  len : own.length ≤ most
  tl : ts.length = own.length
  so : In 0 W own
  st : In (-T) T ts
theorem RowG.good {own ts : List Int} {most : Nat} {W T : Int} (r : RowG own ts most W T) (h : most ≤ 30) (hT : T ≤ 1000000000000) : GoodT ts :=
  ⟨by have := r.one; have := r.tl; omega, by have := r.len; have := r.tl; omega, fun x hx => by have := r.st x hx; omega⟩
theorem RowG.mlen {own ts : List Int} {most : Nat} {W T : Int} (r : RowG own ts most W T) : (movedZ ts own).length = ts.length := moved_len ts own r.tl.symm
theorem RowG.goodM {own ts : List Int} {most : Nat} {W T : Int} (r : RowG own ts most W T) (h : most ≤ 30) (hW : 0 ≤ W) (hT : T + W ≤ 1000000000000) : GoodT (movedZ ts own) :=
  ⟨by rw [r.mlen]; have := r.one; have := r.tl; omega, by rw [r.mlen]; have := r.len; have := r.tl; omega, fun x hx => by
    have := moved_in ts own T W r.st r.so x hx; omega⟩
theorem RowG.sm {own ts : List Int} {most : Nat} {W T : Int} (r : RowG own ts most W T) : shiftsZ ts (movedZ ts own) = own := shifts_moved ts own r.tl.symm
/-- own = _law_shifts(bag, most, wide); first = _law_times(bag, len(own), w) -/
theorem row_ok {b : D} (hb : IsBag b) (most wide : Int) (h1 : 0 < most) (h2 : most ≤ 1000) (h3 : 0 < wide) (h4 : Big wide) : ∃ own b1, F__law_shifts [b] [.int most, .int wide] = .ok (.list (intsD own)) [b1] ∧ IsBag b1 ∧ 1 ≤ own.length ∧ (own.length : Int) ≤ most ∧ In 0 (wide - 1) own := by
  obtain ⟨own, b1, e, hb1, o1, o2, o3⟩ := shifts_ok hb most wide h1 h2 h3 h4
  exact ⟨own, b1, e, hb1, o1, by omega, o3⟩
theorem p1011 : powD (.int 10) (.int 11) = some (.int 100000000000) := by
  rw [e_pow, if_pos (by omega)]
  rfl
theorem p106 : powD (.int 10) (.int 6) = some (.int 1000000) := by
  rw [e_pow, if_pos (by omega)]
  rfl
/-- the plan, as the program and the law tell it -/
theorem plan_both {own ts : List Int} {most : Nat} {W T : Int} (r : RowG own ts most W T) (h : most ≤ 30) (hW : 0 ≤ W) (hT : T + W ≤ 1000000000000) :
    F_plan [] [.tuple (intsD ts), .tuple (intsD (movedZ ts own))] = .ok (.tuple (cmdsD (planZ own))) [] ∧ F__law_last [] [.tuple (intsD ts), .tuple (cmdsD (planZ own))] = .ok (.tuple (intsD (movedZ ts own))) [] := by
  have p := plan_fn ts (movedZ ts own) (r.good h (by omega)) (r.goodM h hW hT) r.mlen
  rw [r.sm] at p
  have l := law_last_ok ts (planZ own) (by have := r.len; have := r.tl; omega) (by rw [r.tl]; exact plan_places own)
  rw [plan_leads ts own r.tl.symm] at l
  exact ⟨p, l⟩
theorem fewest_both {own ts : List Int} {most : Nat} {W T : Int} (r : RowG own ts most W T) (h : most ≤ 30) (hW : 0 ≤ W) (hT : T + W ≤ 1000000000000) : F_fewest [] [.tuple (intsD ts), .tuple (intsD (movedZ ts own))] = .ok (.int (fewestZ own)) [] := by
  have p := fewest_fn ts (movedZ ts own) (r.good h (by omega)) (r.goodM h hW hT) r.mlen
  rwa [r.sm] at p
end Cap
set_option Elab.async false
set_option linter.all false
set_option maxRecDepth 100000
set_option maxHeartbeats 2000000
namespace Cap
open PySem PySem.Spec L2 Mi
theorem retE_app (p : List Int) : ∀ (xs ys : List Int) (last free : Nat), retE p free last (xs ++ ys) = retE p (retE p free last xs) (last + xs.length) ys
  | [], ys, last, free => by simp [retE]
  | x :: xs, ys, last, free => by
    rw [List.cons_append, retE, retE]
    split
    · rw [retE_app p xs ys]; simp [Nat.add_comm, Nat.add_left_comm]
    · cases q : (starts p x free (last - free)).getLast? with
      | some z => simp only; rw [retE_app p xs ys]; simp [Nat.add_comm, Nat.add_left_comm]
      | none => simp only; rw [retE_app p xs ys]; simp [Nat.add_comm, Nat.add_left_comm]
/-- behind the first k places: the returns found, the place they are free from -/
def rets (m : List Int) (k : Nat) : List (Nat × Nat) := retG (0 :: m) 0 0 (m.take k)
def rc (m : List Int) (k : Nat) : Nat := (rets m k).length
def fr (m : List Int) (k : Nat) : Nat := retE (0 :: m) 0 0 (m.take k)
theorem take_s {m : List Int} {k : Nat} (h : k < m.length) : m.take (k + 1) = m.take k ++ [m.getD k 0] := by
  rw [List.take_add_one, List.getElem?_eq_getElem h]
  simp [List.getD, h]
theorem ret_step {m : List Int} {k : Nat} (h : k < m.length) :
    (m.getD k 0 = (0 :: m).getD k 0 ∧ rets m (k + 1) = rets m k ∧ fr m (k + 1) = k + 1) ∨
    (m.getD k 0 ≠ (0 :: m).getD k 0 ∧ ∃ s, (starts (0 :: m) (m.getD k 0) (fr m k) (k - fr m k)).getLast? = some s ∧ rets m (k + 1) = rets m k ++ [(s, k)] ∧ fr m (k + 1) = k + 1) ∨
    (m.getD k 0 ≠ (0 :: m).getD k 0 ∧ (starts (0 :: m) (m.getD k 0) (fr m k) (k - fr m k)).getLast? = none ∧ rets m (k + 1) = rets m k ∧ fr m (k + 1) = fr m k) := by
  have lt : (m.take k).length = k := by simp; omega
  unfold rets fr
  rw [take_s h, ret_app, retE_app, lt, Nat.zero_add]
  by_cases e : m.getD k 0 = (0 :: m).getD k 0
  · exact .inl ⟨e, by simp only [retG, if_pos e, List.append_nil], by simp only [retE, if_pos e]⟩
  · cases q : (starts (0 :: m) (m.getD k 0) (retE (0 :: m) 0 0 (m.take k)) (k - retE (0 :: m) 0 0 (m.take k))).getLast? with
    | some s => exact .inr (.inl ⟨e, s, rfl, by simp only [retG, if_neg e, q], by simp only [retE, if_neg e, q]⟩)
    | none => exact .inr (.inr ⟨e, rfl, by simp only [retG, if_neg e, q, List.append_nil], by simp only [retE, if_neg e, q]⟩)
theorem fr_le {m : List Int} : ∀ {k : Nat}, k ≤ m.length → fr m k ≤ k
  | 0, _ => by simp [fr, retE]
  | k + 1, h => by
    have ih := fr_le (m := m) (k := k) (by omega)
    rcases ret_step (m := m) (k := k) (by omega) with ⟨_, _, e⟩ | ⟨_, _, _, _, e⟩ | ⟨_, _, _, e⟩ <;> omega
theorem rc_mono {m : List Int} : ∀ {d k : Nat}, k + d ≤ m.length → rc m k ≤ rc m (k + d)
  | 0, k, _ => Nat.le_refl _
  | d + 1, k, h => by
    have ih := rc_mono (m := m) (d := d) (k := k) (by omega)
    have : rc m (k + d) ≤ rc m (k + d + 1) := by
      unfold rc
      rcases ret_step (m := m) (k := k + d) (by omega) with ⟨_, e, _⟩ | ⟨_, _, _, e, _⟩ | ⟨_, _, e, _⟩ <;> rw [e] <;> simp
    rw [← Nat.add_assoc]
    omega
theorem rc_step {m : List Int} {k : Nat} (h : k < m.length) : rc m (k + 1) ≤ rc m k + 1 := by
  unfold rc
  rcases ret_step h with ⟨_, e, _⟩ | ⟨_, _, _, e, _⟩ | ⟨_, _, e, _⟩ <;> rw [e] <;> simp
/-- from the free place on all are breaks; no return is found behind it -/
theorem fr_breaks {m : List Int} : ∀ {k : Nat}, k ≤ m.length → ∀ q, fr m k ≤ q → q < k → m.getD q 0 ≠ (0 :: m).getD q 0
  | 0, _, q, _, h => by omega
  | k + 1, hk, q, h1, h2 => by
    rcases ret_step (m := m) (k := k) (by omega) with ⟨_, _, e⟩ | ⟨_, _, _, _, e⟩ | ⟨n, _, _, e⟩
    · omega
    · omega
    · by_cases hq : q = k
      · subst hq; exact n
      · exact fr_breaks (m := m) (k := k) (by omega) q (by omega) (by omega)
theorem fr_rc {m : List Int} : ∀ {k : Nat}, k ≤ m.length → ∀ s, fr m k ≤ s → s ≤ k → rc m s = rc m k
  | 0, _, s, _, h => by rw [show s = 0 by omega]
  | k + 1, hk, s, h1, h2 => by
    by_cases hs : s = k + 1
    · subst hs; rfl
    · rcases ret_step (m := m) (k := k) (by omega) with ⟨_, _, e⟩ | ⟨_, _, _, _, e⟩ | ⟨n, _, r, e⟩
      · omega
      · omega
      · have := fr_rc (m := m) (k := k) (by omega) s (by omega) (by omega)
        rw [this]; unfold rc; rw [r]
/-- a return from first to last -/
def validZ (m : List Int) (first last : Nat) : Prop := (∀ q, first ≤ q → q ≤ last → m.getD q 0 ≠ (0 :: m).getD q 0) ∧ (0 :: m).getD first 0 = m.getD last 0
theorem valid_more {m : List Int} {first last : Nat} (h1 : first < last) (h2 : last < m.length) (hv : validZ m first last) : rc m first + 1 ≤ rc m (last + 1) := by
  have key : ∀ d, first + d ≤ last → fr m (first + d) ≤ first ∨ rc m first + 1 ≤ rc m (first + d) := by
    intro d
    induction d with
    | zero => intro _; exact .inl (fr_le (by omega))
    | succ d ih =>
      intro hd
      rcases ret_step (m := m) (k := first + d) (by omega) with ⟨e, _⟩ | ⟨_, s, _, e, _⟩ | ⟨_, _, r, e⟩
      · exact absurd e (hv.1 _ (by omega) (by omega))
      · right
        have := rc_mono (m := m) (d := d) (k := first) (by omega)
        rw [← Nat.add_assoc]
        unfold rc at this ⊢
        rw [e]
        simp; omega
      · rw [← Nat.add_assoc, e]
        have : rc m (first + d + 1) = rc m (first + d) := by unfold rc; rw [r]
        rw [this]
        exact ih (by omega)
  have hm := rc_mono (m := m) (d := 1) (k := last) (by omega)
  have hk := key (last - first) (by omega)
  rw [show first + (last - first) = last by omega] at hk
  rcases hk with hk | hk
  · rcases ret_step h2 with ⟨e, _⟩ | ⟨_, s, _, e, _⟩ | ⟨_, e, _⟩
    · exact absurd e (hv.1 last (by omega) (by omega))
    · have := rc_mono (m := m) (d := last - first) (k := first) (by omega)
      rw [show first + (last - first) = last by omega] at this
      unfold rc at this ⊢
      rw [e]
      simp; omega
    · exact absurd hv.2 (starts_none.mp e first hk (by omega))
  · omega
theorem valid_found {m : List Int} {last : Nat} (h : last < m.length) (hm : rc m (last + 1) ≠ rc m last) : ∃ s, s < last ∧ validZ m s last ∧ rc m (last + 1) = rc m s + 1 := by
  have hf := fr_le (m := m) (k := last) (by omega)
  rcases ret_step h with ⟨_, e, _⟩ | ⟨n, s, q, e, _⟩ | ⟨_, _, e, _⟩
  · exact absurd (by unfold rc; rw [e]) hm
  · obtain ⟨s1, s2, s3⟩ := starts_some q
    refine ⟨s, by omega, ⟨fun q h1 h2 => ?_, s3⟩, ?_⟩
    · by_cases hq : q = last
      · subst hq; exact n
      · exact fr_breaks (m := m) (k := last) (by omega) q (by omega) (by omega)
    · have := fr_rc (m := m) (k := last) (by omega) s s1 (by omega)
      rw [this]; unfold rc; rw [e]; simp
  · exact absurd (by unfold rc; rw [e]) hm
open Classical in
/-- the law's inner turn -/
noncomputable def mostStep (m : List Int) (last : Nat) (b : Int) (first : Nat) : Int := if validZ m first last then max b ((rc m first : Int) + 1) else b
theorem most_fold {m : List Int} {last : Nat} (h : last < m.length) : ∀ (fs : List Nat) (b : Int), (∀ f ∈ fs, f < last) → (rc m last : Int) ≤ b → b ≤ rc m (last + 1) →
    (rc m last : Int) ≤ fs.foldl (mostStep m last) b ∧ fs.foldl (mostStep m last) b ≤ rc m (last + 1) ∧ b ≤ fs.foldl (mostStep m last) b ∧ ∀ f ∈ fs, validZ m f last → (rc m f : Int) + 1 ≤ fs.foldl (mostStep m last) b
  | [], b, _, h1, h2 => ⟨h1, h2, Int.le_refl _, by simp⟩
  | f :: fs, b, hf, h1, h2 => by
    have hb : b ≤ mostStep m last b f ∧ mostStep m last b f ≤ rc m (last + 1) ∧ (validZ m f last → (rc m f : Int) + 1 ≤ mostStep m last b f) := by
      unfold mostStep
      by_cases hv : validZ m f last
      · have := valid_more (hf f (by simp)) h hv
        rw [if_pos hv]
        exact ⟨Int.le_max_left _ _, Int.max_le.mpr ⟨h2, by omega⟩, fun _ => Int.le_max_right _ _⟩
      · rw [if_neg hv]; exact ⟨Int.le_refl _, h2, fun q => absurd q hv⟩
    obtain ⟨g1, g2, g3, g4⟩ := most_fold h fs (mostStep m last b f) (fun x hx => hf x (by simp [hx])) (by omega) hb.2.1
    refine ⟨g1, g2, by simp only [List.foldl_cons]; omega, fun x hx hv => ?_⟩
    rcases List.mem_cons.mp hx with rfl | hx
    · have := hb.2.2 hv
      simp only [List.foldl_cons]; omega
    · exact g4 x hx hv
theorem most_turn {m : List Int} {last : Nat} (h : last < m.length) (fs : List Nat) (hf : ∀ f, f ∈ fs ↔ f < last) : fs.foldl (mostStep m last) (rc m last : Int) = rc m (last + 1) := by
  have hm := rc_mono (m := m) (d := 1) (k := last) (by omega)
  obtain ⟨g1, g2, _, g4⟩ := most_fold h fs (rc m last) (fun f q => (hf f).mp q) (Int.le_refl _) (by omega)
  by_cases e : rc m (last + 1) = rc m last
  · rw [e] at g2 ⊢; omega
  · obtain ⟨s, s1, s2, s3⟩ := valid_found h e
    have := g4 s ((hf s).mpr s1) s2
    omega
theorem rets_all (m : List Int) : rets m m.length = retZ m := by unfold rets retZ; rw [List.take_length]
theorem aut_map (f : Int → Int) (hf : ∀ x y, f x = f y → x = y) : ∀ (m S : List Int), aut (S.map f) (m.map f) = aut S m
  | [], _ => rfl
  | s :: m, S => by
    have hin : f s ∈ S.map f ↔ s ∈ S := ⟨fun h => by
      obtain ⟨y, hy, e⟩ := List.mem_map.mp h
      rw [← hf _ _ e]; exact hy, List.mem_map_of_mem⟩
    have e1 : autN (S.map f) (f s) = autN S s := by
      unfold autN
      by_cases h : s ∈ S
      · rw [if_pos h, if_pos (hin.mpr h)]
      · rw [if_neg h, if_neg (fun q => h (hin.mp q))]
    have e2 : autS (S.map f) (f s) = (autS S s).map f := by
      unfold autS
      by_cases h : s ∈ S
      · rw [if_pos h, if_pos (hin.mpr h)]; rfl
      · rw [if_neg h, if_neg (fun q => h (hin.mp q))]; rfl
    simp only [List.map_cons, aut, e1, e2, aut_map f hf m]
theorem fewest_map (f : Int → Int) (hf : ∀ x y, f x = f y → x = y) (h0 : f 0 = 0) (m : List Int) : fewestZ (m.map f) = fewestZ m := by
  rw [fewest_aut, fewest_aut]
  have := aut_map f hf m [0]
  simp only [List.map_cons, List.map_nil, h0] at this
  exact this
theorem shifts_back : ∀ (a m : List Int), m.length = a.length → shiftsZ (movedZ a m) a = m.map fun x => -x
  | [], [], _ => rfl
  | [], _ :: _, h => by simp at h
  | _ :: _, [], h => by simp at h
  | x :: a, y :: m, h => by
    have ih := shifts_back a m (by simpa using h)
    simp only [shiftsZ, movedZ, List.zip_cons_cons, List.map_cons] at ih ⊢
    rw [ih]
    congr 1
    omega
/-- two breaks a return -/
theorem ones_two {m : List Int} : ∀ {ps : List (Nat × Nat)} {lo : Nat}, RetP m lo ps → ps.length ≤ (ps.flatMap (onesOf m)).length
  | [], _, _ => by simp
  | p :: r, lo, ⟨a, b, c, d, e, f⟩ => by
    have := ones_two f
    simp only [List.flatMap_cons, List.length_append, List.length_cons, onesOf, List.length_map, List.length_range']
    omega
theorem breaks_two (m : List Int) : 2 * (retZ m).length ≤ (breaksZ m).length := by
  have hP := retZ_P m
  have h1 := ones_two hP
  have h2 := plan_len m
  unfold fewestZ planZ at h2
  simp only [List.length_append] at h2
  omega
end Cap
set_option Elab.async false
set_option linter.all false
set_option maxRecDepth 100000
set_option maxHeartbeats 2000000
namespace Cap
open PySem PySem.Spec L2 Mi
theorem lcO_filter {α : Type} {j : Nat} {vs : List Nat} {t : Tgt} {ft : Rho → Res Bool} {fe : Rho → Res D} {ρ : Rho} (g f : α → D) (p : α → Bool) (xs : List α) (ho : ownL j ρ = some (xs.map g))
    (h : ∀ x ∈ xs, ∃ ρ1, t.put (g x) (wipeR vs ρ) = some ρ1 ∧ ft ρ1 = .ok (p x) ρ1 ∧ (p x = true → fe ρ1 = .ok (f x) ρ1) ∧ backR vs ρ ρ1 = ρ) : lcO j xs.length vs t ft fe xs.length ρ = .ok ((xs.filter p).map f) ρ := by
  have gen : ∀ r, r ≤ xs.length → lcO j xs.length vs t ft fe r ρ = .ok (((xs.drop (xs.length - r)).filter p).map f) ρ := by
    intro r
    induction r with
    | zero => intro _; rw [Nat.sub_zero, List.drop_length, lcO, ho]; simp
    | succ r ih =>
      intro hr
      have ih := ih (by omega)
      have hlt : xs.length - (r + 1) < xs.length := by omega
      obtain ⟨ρ1, e1, e2, e3, e4⟩ := h (xs[xs.length - (r + 1)]) (by simp)
      rw [List.drop_eq_getElem_cons hlt, show xs.length - (r + 1) + 1 = xs.length - r by omega, lcO, ho]
      have hg : (xs.map g)[xs.length - (r + 1)]? = some (g xs[xs.length - (r + 1)]) := by
        rw [List.getElem?_map, List.getElem?_eq_getElem hlt]; rfl
      simp only [List.length_map, if_true, hg, e1, e2, Res.nox_ok, Res.bind_ok]
      cases q : p xs[xs.length - (r + 1)] with
      | true => rw [if_pos rfl, e3 q, Res.nox_ok, Res.bind_ok, e4, ih, List.filter_cons_of_pos q]; rfl
      | false => rw [if_neg (by simp), e4, ih, List.filter_cons_of_neg (by simp [q])]
  have := gen xs.length (Nat.le_refl _)
  rwa [Nat.sub_self] at this
def seenD (m : List Int) (f k : Nat) : List D := (List.range' f (k - f)).map fun q : Nat => .tuple [.int ((0 :: m).getD q 0), .int (q : Int)]
theorem seen_more (m : List Int) (f k : Nat) (h : f ≤ k) : seenD m f k ++ [.tuple [.int ((0 :: m).getD k 0), .int (k : Int)]] = seenD m f (k + 1) := by
  unfold seenD
  rw [show k + 1 - f = (k - f) + 1 by omega, List.range'_concat, List.map_append]
  simp only [List.map_cons, List.map_nil, Nat.one_mul]
  rw [show f + (k - f) = k by omega]
theorem seen_none (m : List Int) (k : Nat) : seenD m k k = [] := by simp [seenD]
theorem ne_pairs (ps : List (Nat × Nat)) : neD (.list (pairsD ps)) (.list (pairsD ps)) = some (.bool false) := by
  have pl : ∀ ps : List (Nat × Nat), PyData.plainAll (pairsD ps) = true := fun ps => by
    induction ps with
    | nil => rfl
    | cons p ps ih => simp [pairsD] at ih ⊢; simp [PyData.plainAll, PyData.plain, ih]
  have dp : ∀ ps : List (Nat × Nat), PyData.depthAll (pairsD ps) ≤ 1 := fun ps => by
    induction ps with
    | nil => simp [pairsD, PyData.depthAll]
    | cons p ps ih => simp [pairsD] at ih ⊢; simp [PyData.depthAll, PyData.depth]; omega
  have ev : ∀ ps : List (Nat × Nat), PyData.eqvAll (pairsD ps) (pairsD ps) = true := fun ps => by
    induction ps with
    | nil => rfl
    | cons p ps ih => simp [pairsD] at ih ⊢; simp [PyData.eqvAll, PyData.eqv, ih]
  rw [neD_of (by simp [PyData.plain, pl]) (by simp [PyData.plain, pl]) (.inl (by have := dp ps; simp [PyData.depth]; omega))]
  simp [PyData.eqv, ev]
theorem eq_pairs (ps : List (Nat × Nat)) : eqD (.list (pairsD ps)) (.list (pairsD ps)) = some (.bool true) := by
  have h := ne_pairs ps
  unfold neD at h
  unfold eqD
  split at h
  · rename_i q
    rw [if_pos q]
    simp at h
    simp [h]
  · cases h
theorem lret_turn (m : List Int) (k : Nat) (hk : k < m.length) (hm : m.length ≤ 900000) (s4 s5 s6 : Slot) :
    ∃ t6, L1__law_returns [.fz (.list (intsD m)), .ow (.list (pairsD (rets m k))), .ow (.list (seenD m (fr m k) k)), .fz (.int ((0 :: m).getD k 0)), .fz (.int k), .fz (.int (m.getD k 0)), s6, .un, .un] =
      .nx [.fz (.list (intsD m)), .ow (.list (pairsD (rets m (k + 1)))), .ow (.list (seenD m (fr m (k + 1)) (k + 1))), .fz (.int (m.getD k 0)), .fz (.int k), .fz (.int (m.getD k 0)), t6, .un, .un] := by
  have hf := fr_le (m := m) (k := k) (by omega)
  have hrl : (pairsD (rets m k)).length < 1000000 := by
    rw [pairsD_len]
    have g : ∀ j, j ≤ m.length → rc m j ≤ j := fun j => by
      induction j with
      | zero => intro _; simp [rc, rets, retG]
      | succ j ih => intro hj; have := rc_step (m := m) (k := j) (by omega); have := ih (by omega); omega
    have := g k (by omega)
    unfold rc at this
    omega
  have sl : (seenD m (fr m k) k).length < 1000000 := by simp [seenD]; omega
  by_cases e : m.getD k 0 = (0 :: m).getD k 0
  · rcases ret_step hk with ⟨_, r1, r2⟩ | ⟨n, _⟩ | ⟨n, _⟩
    · rw [r1, r2, seen_none]
      refine ⟨s6, ?_⟩
      simp [L1__law_returns, e, -List.getD_eq_getElem?_getD]
    · exact absurd e n
    · exact absurd e n
  · have comp := lcO_filter (j := 2) (vs := [7, 8]) (t := .tup [7, 8]) (ft := T1__law_returns) (fe := C1__law_returns)
      (ρ := [.fz (.list (intsD m)), .ow (.list (pairsD (rets m k))), .ow (.list (seenD m (fr m k) (k + 1))), .fz (.int ((0 :: m).getD k 0)), .fz (.int k), .fz (.int (m.getD k 0)), s6, .un, .un])
      (fun q : Nat => .tuple [.int ((0 :: m).getD q 0), .int (q : Int)]) (fun q : Nat => .int (q : Int)) (fun q => decide ((0 :: m).getD q 0 = m.getD k 0) && decide (q < k)) (List.range' (fr m k) (k + 1 - fr m k)) rfl (by
        intro q hq
        refine ⟨[.fz (.list (intsD m)), .ow (.list (pairsD (rets m k))), .ow (.list (seenD m (fr m k) (k + 1))), .fz (.int ((0 :: m).getD k 0)), .fz (.int k), .fz (.int (m.getD k 0)), s6, .fz (.int ((0 :: m).getD q 0)), .fz (.int (q : Int))], by simp [wipeR], ?_, by simp [C1__law_returns], by simp [backR, keepS]⟩
        by_cases h1 : (0 :: m).getD q 0 = m.getD k 0
        · simp [T1__law_returns, h1, -List.getD_eq_getElem?_getD]
        · simp [T1__law_returns, h1, -List.getD_eq_getElem?_getD])
    have sf : ((List.range' (fr m k) (k + 1 - fr m k)).filter fun q => decide ((0 :: m).getD q 0 = m.getD k 0) && decide (q < k)) = starts (0 :: m) (m.getD k 0) (fr m k) (k - fr m k) := by
      unfold starts
      rw [show k + 1 - fr m k = (k - fr m k) + 1 by omega, List.range'_concat, List.filter_append]
      have z : ([fr m k + 1 * (k - fr m k)].filter fun q => decide ((0 :: m).getD q 0 = m.getD k 0) && decide (q < k)) = [] := by
        rw [List.filter_eq_nil_iff]
        intro q hq
        have : q = k := by simp at hq; omega
        simp [this]
      rw [z, List.append_nil, List.range'_eq_map_range, List.filter_map]
      congr 1
      refine List.filter_congr fun q hq => ?_
      have := List.mem_range.mp hq
      simp
      intro _
      omega
    rw [sf] at comp
    have seenl : (List.range' (fr m k) (k + 1 - fr m k)).length = (seenD m (fr m k) (k + 1)).length := by simp [seenD]
    rw [seenl] at comp
    have sl2 : (seenD m (fr m k) (k + 1)).length ≤ 1000000 := by simp [seenD]; omega
    have sm := seen_more m (fr m k) k hf
    have z1 : (starts (0 :: m) (m.getD k 0) (fr m k) (k - fr m k)).map (fun q : Nat => (.int (q : Int) : D)) = intsD (natsI (starts (0 :: m) (m.getD k 0) (fr m k) (k - fr m k))) := by simp [intsD, natsI]
    rw [z1] at comp
    have ne0 : neD (.list (intsD (natsI (starts (0 :: m) (m.getD k 0) (fr m k) (k - fr m k))))) (.list []) = some (.bool (decide (natsI (starts (0 :: m) (m.getD k 0) (fr m k) (k - fr m k)) ≠ []))) := ne_ints _ []
    rcases ret_step hk with ⟨n, _⟩ | ⟨_, s, q, r1, r2⟩ | ⟨_, q, r1, r2⟩
    · exact absurd n e
    · rw [r1, r2, seen_none]
      have at1 : atI (intsD (natsI (starts (0 :: m) (m.getD k 0) (fr m k) (k - fr m k)))) (-1) = some (.int s) := atI_last (by
        simp [intsD, natsI, q, -List.getD_eq_getElem?_getD])
      have nn : natsI (starts (0 :: m) (m.getD k 0) (fr m k) (k - fr m k)) ≠ [] := fun z => by
        have : starts (0 :: m) (m.getD k 0) (fr m k) (k - fr m k) = [] := by simpa [natsI] using z
        rw [this] at q; cases q
      refine ⟨.fz (.list (intsD (natsI (starts (0 :: m) (m.getD k 0) (fr m k) (k - fr m k))))), ?_⟩
      generalize natsI (starts (0 :: m) (m.getD k 0) (fr m k) (k - fr m k)) = S at comp ne0 at1 nn
      simp [L1__law_returns, e, sl, sm, sl2, comp, ne0, nn, at1, hrl, -List.getD_eq_getElem?_getD]
      rw [if_pos (by simpa using hrl)]
      simp [pairsD]
    · rw [r1, r2]
      have nn : starts (0 :: m) (m.getD k 0) (fr m k) (k - fr m k) = [] := List.getLast?_eq_none_iff.mp q
      rw [nn] at comp ne0
      refine ⟨.fz (.list []), ?_⟩
      have comp : lcO 2 (seenD m (fr m k) (k + 1)).length [7, 8] (.tup [7, 8]) T1__law_returns C1__law_returns (seenD m (fr m k) (k + 1)).length [.fz (.list (intsD m)), .ow (.list (pairsD (rets m k))), .ow (.list (seenD m (fr m k) (k + 1))), .fz (.int ((0 :: m).getD k 0)), .fz (.int k), .fz (.int (m.getD k 0)), s6, .un, .un] = .ok [] _ := comp
      have ne0 : neD (.list []) (.list []) = some (.bool false) := ne0
      simp [L1__law_returns, e, sl, sm, sl2, comp, ne0, -List.getD_eq_getElem?_getD]
theorem law_returns_ok (m : List Int) (hm : m.length ≤ 900000) : F__law_returns [] [.list (intsD m)] = .ok (.list (pairsD (retZ m))) [] := by
  have loop : ∀ (d k : Nat), k + d = m.length → ∀ s4 s5 s6 : Slot, ∃ t3 t4 t5 t6 S, forL (.tup [4, 5]) L1__law_returns ((List.range' k d).map fun i : Nat => .tuple [.int (i : Int), .int (m.getD i 0)]) [.fz (.list (intsD m)), .ow (.list (pairsD (rets m k))), .ow (.list (seenD m (fr m k) k)), .fz (.int ((0 :: m).getD k 0)), s4, s5, s6, .un, .un] =
      .nx [.fz (.list (intsD m)), .ow (.list (pairsD (retZ m))), S, t3, t4, t5, t6, .un, .un] := by
    intro d
    induction d with
    | zero =>
      intro k hk s4 s5 s6
      have : k = m.length := by omega
      subst this
      exact ⟨_, s4, s5, s6, _, by rw [rets_all]; rfl⟩
    | succ d ih =>
      intro k hk s4 s5 s6
      obtain ⟨t6, e⟩ := lret_turn m k (by omega) hm s4 s5 s6
      obtain ⟨t3, t4, t5, u6, S, e2⟩ := ih (k + 1) (by omega) (.fz (.int k)) (.fz (.int (m.getD k 0))) t6
      refine ⟨t3, t4, t5, u6, S, ?_⟩
      rw [List.range'_succ, List.map_cons]
      simp only [forL, e_putTup, List.length_cons, List.length_nil, if_true, e_setAll1, e_setAll0, List.set_cons_succ, List.set_cons_zero]
      rw [e]
      exact e2
  obtain ⟨t3, t4, t5, t6, S, e⟩ := loop m.length 0 (by omega) .un .un .un
  have en : enumD (intsD m) = (List.range' 0 m.length).map fun i : Nat => .tuple [.int (i : Int), .int (m.getD i 0)] := by
    rw [enumD_ints, zipIdx_range, List.map_map, List.range_eq_range']; rfl
  have e : forL (.tup [4, 5]) L1__law_returns (enumD (intsD m)) [.fz (.list (intsD m)), .ow (.list []), .ow (.list []), .fz (.int 0), .un, .un, .un, .un, .un] = .nx [.fz (.list (intsD m)), .ow (.list (pairsD (retZ m))), S, t3, t4, t5, t6, .un, .un] := by rw [en]; exact e
  simp [F__law_returns, M__law_returns, e]
open Classical in
theorem inner_turn (m : List Int) (last first : Nat) (hl : last < m.length) (hf : first < last) (hm : m.length ≤ 1000) (T : List Int) (hT : T.getD first 0 = rc m first) (hTl : first < T.length) (b : Int) (s6 : Slot) :
    ∃ t6, L1__law_most [.fz (.list (intsD m)), .ow (.list (intsD T)), .fz (.list (intsD (0 :: m))), .fz (.int last), .fz (.int b), .fz (.int first), s6, .un] =
      .nx [.fz (.list (intsD m)), .ow (.list (intsD T)), .fz (.list (intsD (0 :: m))), .fz (.int last), .fz (.int (mostStep m last b first)), .fz (.int first), t6, .un] := by
  have r2 : rng2 [.int (first : Int), .int ((last : Int) + 1)] = some ((List.range' first (last + 1 - first)).map fun i : Nat => .int (i : Int)) := by
    rw [e_rng2, if_pos (by omega), show ((last : Int) + 1 - first).toNat = last + 1 - first by omega, rngD_nat]
  have comp := lcL_1f (v := 7) (ft := T1__law_most) (fe := C1__law_most) (ρ := [.fz (.list (intsD m)), .ow (.list (intsD T)), .fz (.list (intsD (0 :: m))), .fz (.int last), .fz (.int b), .fz (.int first), s6, .un]) rfl
    (fun i : Nat => .int (i : Int)) (fun i : Nat => .int (i : Int)) (fun q => decide ((0 :: m).getD (q + 1) 0 = (0 :: m).getD q 0)) (List.range' first (last + 1 - first)) (by
      intro q hq
      have hq := List.mem_range'_1.mp hq
      have a1 := atI_ints (xs := 0 :: m) (i := q + 1) (by simp; omega)
      have a2 := atI_ints (xs := 0 :: m) (i := q) (by simp; omega)
      simp only [Int.natCast_add, Int.natCast_one] at a1
      rw [prevS] at a1 ⊢
      simp [T1__law_most, a1, a2, -List.getD_eq_getElem?_getD]) (by simp [C1__law_most])
  have z1 : ∀ S : List Nat, S.map (fun q : Nat => (.int (q : Int) : D)) = intsD (natsI S) := fun S => by simp [intsD, natsI]
  have a3 := atI_ints (xs := 0 :: m) (i := first) (by simp; omega)
  have a4 := atI_ints (xs := 0 :: m) (i := last + 1) (by simp; omega)
  have a5 := atI_ints (xs := T) (i := first) hTl
  simp only [Int.natCast_add, Int.natCast_one] at a4
  rw [prevS] at a4
  rw [hT] at a5
  rw [z1 ((List.range' first (last + 1 - first)).filter _)] at comp
  have ll : last + 1 - first ≤ 1000000 := by omega
  refine ⟨.fz (.list (intsD (natsI ((List.range' first (last + 1 - first)).filter fun q => decide ((0 :: m).getD (q + 1) 0 = (0 :: m).getD q 0))))), ?_⟩
  have eq0 : ∀ S : List Int, eqD (.list (intsD S)) (.list []) = some (.bool (decide (S = []))) := fun S => eq_ints S []
  have vi : validZ m first last ↔ natsI ((List.range' first (last + 1 - first)).filter fun q => decide ((0 :: m).getD (q + 1) 0 = (0 :: m).getD q 0)) = [] ∧ (0 :: m).getD first 0 = m.getD last 0 := by
    unfold validZ
    refine and_congr ?_ Iff.rfl
    simp only [natsI, List.map_eq_nil_iff, List.filter_eq_nil_iff, List.mem_range'_1, decide_eq_true_eq]
    exact ⟨fun h q hq => by rw [prevS]; exact h q (by omega) (by omega), fun h q h1 h2 => by have := h q (by omega); rwa [prevS] at this⟩
  unfold mostStep
  rw [if_cg vi]
  generalize natsI ((List.range' first (last + 1 - first)).filter fun q => decide ((0 :: m).getD (q + 1) 0 = (0 :: m).getD q 0)) = S at comp
  by_cases hS : S = []
  · by_cases hv : (0 :: m).getD first 0 = m.getD last 0
    · rw [if_pos ⟨hS, hv⟩]
      simp [L1__law_most, r2, comp, ll, eq0, hS, a3, a4, hv, a5, -e_rng2, -List.getD_eq_getElem?_getD]
    · rw [if_neg (fun q => hv q.2)]
      simp [L1__law_most, r2, comp, ll, eq0, hS, a3, a4, hv, -e_rng2, -List.getD_eq_getElem?_getD]
  · rw [if_neg (fun q => hS q.1)]
    simp [L1__law_most, r2, comp, ll, eq0, hS, -e_rng2, -List.getD_eq_getElem?_getD]
def tblZ (m : List Int) (k : Nat) : List Int := (List.range (k + 1)).map fun j => (rc m j : Int)
theorem tbl_get {m : List Int} {k j : Nat} (h : j ≤ k) : (tblZ m k).getD j 0 = rc m j := by
  simp [tblZ, List.getD, show j < k + 1 by omega]
theorem outer_turn (m : List Int) (last : Nat) (hl : last < m.length) (hm : m.length ≤ 1000) (s4 s5 s6 : Slot) :
    ∃ t4 t5 t6, L2__law_most [.fz (.list (intsD m)), .ow (.list (intsD (tblZ m last))), .fz (.list (intsD (0 :: m))), .fz (.int last), s4, s5, s6, .un] =
      .nx [.fz (.list (intsD m)), .ow (.list (intsD (tblZ m (last + 1)))), .fz (.list (intsD (0 :: m))), .fz (.int last), t4, t5, t6, .un] := by
  have tl : (tblZ m last).length = last + 1 := by simp [tblZ]
  obtain ⟨ρ', e, s5', s6', rfl⟩ := forL_rel (t := .name 5) (f := L1__law_most) (fun f : Nat => .int (f : Int)) (fun (b : Int) ρ => ∃ s5 s6, ρ = [.fz (.list (intsD m)), .ow (.list (intsD (tblZ m last))), .fz (.list (intsD (0 :: m))), .fz (.int last), .fz (.int b), s5, s6, .un])
    (mostStep m last) ((List.range last).map fun i => last - 1 - i) (rc m last : Int) [.fz (.list (intsD m)), .ow (.list (intsD (tblZ m last))), .fz (.list (intsD (0 :: m))), .fz (.int last), .fz (.int (rc m last)), s5, s6, .un] (by
      rintro b f ρ hf ⟨s5, s6, rfl⟩
      obtain ⟨i, hi, rfl⟩ := List.mem_map.mp hf
      have hi := List.mem_range.mp hi
      obtain ⟨t6, e⟩ := inner_turn m last (last - 1 - i) hl (by omega) hm (tblZ m last) (tbl_get (by omega)) (by omega) b s6
      exact ⟨_, _, rfl, .inl e, _, _, rfl⟩) ⟨_, _, rfl⟩
  rw [most_turn hl _ (fun f => by
    simp only [List.mem_map, List.mem_range]
    exact ⟨fun ⟨i, hi, e⟩ => by omega, fun h => ⟨last - 1 - f, by omega, by omega⟩⟩)] at e
  have rg : rngDn ((last : Int) - 1) last = ((List.range last).map fun i => last - 1 - i).map fun f : Nat => .int (f : Int) := by
    unfold rngDn
    rw [List.map_map]
    refine List.map_congr_left fun i hi => ?_
    have := List.mem_range.mp hi
    simp; omega
  rw [← rg] at e
  have r3 : rng3 [.int ((last : Int) - 1), .int (-1), .int (-1)] = some (rngDn ((last : Int) - 1) last) := by
    rw [e_rng3, if_pos (by omega), show ((last : Int) - 1 - -1).toNat = last by omega]
  have a1 := atI_ints (xs := tblZ m last) (i := last) (by omega)
  rw [tbl_get (Nat.le_refl _)] at a1
  have tl2 : (intsD (tblZ m last)).length < 1000000 := by simp; omega
  have tm : intsD (tblZ m last) ++ [.int (rc m (last + 1) : Int)] = intsD (tblZ m (last + 1)) := by
    simp [tblZ, intsD, List.range_succ]
  refine ⟨.fz (.int (rc m (last + 1))), s5', s6', ?_⟩
  simp [L2__law_most, a1, r3, e, tl, -e_rng3]
  rw [if_pos (by omega), tm]
  rfl
theorem law_most_ok (m : List Int) (hm : m.length ≤ 1000) : F__law_most [] [.list (intsD m)] = .ok (.int (retZ m).length) [] := by
  have loop : ∀ (d k : Nat), k + d = m.length → ∀ s3 s4 s5 s6 : Slot, ∃ t3 t4 t5 t6, forL (.name 3) L2__law_most ((List.range' k d).map fun i => .int ((0 : Int) + (i : Nat))) [.fz (.list (intsD m)), .ow (.list (intsD (tblZ m k))), .fz (.list (intsD (0 :: m))), s3, s4, s5, s6, .un] =
      .nx [.fz (.list (intsD m)), .ow (.list (intsD (tblZ m m.length))), .fz (.list (intsD (0 :: m))), t3, t4, t5, t6, .un] := by
    intro d
    induction d with
    | zero =>
      intro k hk s3 s4 s5 s6
      have : k = m.length := by omega
      subst this
      exact ⟨s3, s4, s5, s6, rfl⟩
    | succ d ih =>
      intro k hk s3 s4 s5 s6
      obtain ⟨t4, t5, t6, e⟩ := outer_turn m k (by omega) hm s4 s5 s6
      obtain ⟨u3, u4, u5, u6, e2⟩ := ih (k + 1) (by omega) (.fz (.int k)) t4 t5 t6
      refine ⟨u3, u4, u5, u6, ?_⟩
      rw [List.range'_succ, List.map_cons]
      simp only [forL, e_putNm, List.set_cons_succ, List.set_cons_zero, Int.zero_add]
      rw [e]
      simpa using e2
  obtain ⟨t3, t4, t5, t6, e⟩ := loop m.length 0 (by omega) .un .un .un .un
  rw [← rngD_range'] at e
  have e : forL (.name 3) L2__law_most (rngD 0 m.length) [.fz (.list (intsD m)), .ow (.list [.int 0]), .fz (.list (.int 0 :: intsD m)), .un, .un, .un, .un, .un] = _ := e
  have r1 : rng1 [.int (m.length : Int)] = some (rngD 0 m.length) := by
    rw [e_rng1, if_pos (by omega)]
    rfl
  have l1 : 1 + m.length ≤ 1000000 := by omega
  have at1 : atI (intsD (tblZ m m.length)) (-1) = some (.int (retZ m).length) := atI_last (by
    simp only [intsD, tblZ, List.map_map, List.getLast?_map]
    rw [List.getLast?_range]
    simp [rc, rets_all])
  simp [F__law_most, M__law_most, r1, l1, e, at1, -e_rng1]
end Cap
set_option Elab.async false
set_option linter.all false
set_option maxRecDepth 100000
set_option maxHeartbeats 2000000
namespace Cap
open PySem PySem.Spec L2 Mi
theorem eq_follow (b : Bool) : eqD (.str (word b)) (.str "following") = some (.bool (!b)) := by cases b <;> rfl
/-- what a command makes of the time t at the place i -/
def putA (c : Cmd) (t : Int) (i : Nat) : Int := if c.p.toNat = i ∨ (c.one = false ∧ c.p.toNat < i) then t + c.v else t
theorem after_turn (a : List Int) (c : Cmd) (h0 : 0 ≤ c.p) (F : List Int) (hF : F.length < 1000000) (t : Int) (i : Nat) (s8 : Slot) : ∃ t8, L1_after [.fz (.tuple (intsD a)), .fz c.d, .fz (.str (word c.one)), .fz (.int c.p), .fz (.int c.v), .ow (.list (intsD F)), .fz (.int i), .fz (.int t), s8] =
    .nx [.fz (.tuple (intsD a)), .fz c.d, .fz (.str (word c.one)), .fz (.int c.p), .fz (.int c.v), .ow (.list (intsD (F ++ [putA c t i]))), .fz (.int i), .fz (.int t), t8] := by
  obtain ⟨o, p, v⟩ := c
  obtain ⟨k, rfl⟩ := Int.eq_ofNat_of_zero_le h0
  have hl : (intsD F).length < 1000000 := by simpa using hF
  refine ⟨.fz (.bool (decide (k = i) || (!o && decide (k < i)))), ?_⟩
  have e1 : (decide ((i : Int) = (k : Int))) = decide (k = i) := by
    by_cases h : k = i
    · subst h; simp
    · rw [decide_eq_false h, decide_eq_false (by omega)]
  by_cases h : k = i
  · subst h
    simp [L1_after, intsD_app, putA, hF]
    simp [intsD]
  · cases o with
    | true =>
      simp [L1_after, e1, h, intsD_app, putA, hF, eq_follow]
      simp [intsD]
    | false =>
      by_cases h2 : k < i
      · simp [L1_after, e1, h, h2, intsD_app, putA, hF, eq_follow]
        simp [intsD]
      · simp [L1_after, e1, h, h2, intsD_app, putA, hF, eq_follow]
        simp [intsD]
theorem after_ok (a : List Int) (c : Cmd) (h0 : 0 ≤ c.p) (h1 : c.p < a.length) (hl : a.length ≤ 100000) : F_after [] [.tuple (intsD a), c.d] = .ok (.tuple (intsD (afterZ a c))) [] := by
  obtain ⟨ρ', e, ⟨s6, s7, s8, rfl⟩, q⟩ := forL_rel' (t := .tup [6, 7]) (f := L1_after) (fun p : Int × Nat => .tuple [.int (p.2 : Nat), .int p.1])
    (fun F ρ => ∃ s6 s7 s8, ρ = [.fz (.tuple (intsD a)), .fz c.d, .fz (.str (word c.one)), .fz (.int c.p), .fz (.int c.v), .ow (.list (intsD F)), s6, s7, s8]) (fun F p => F ++ [putA c p.1 p.2]) (fun k F => F.length + k ≤ 100000) a.zipIdx 0 []
    [.fz (.tuple (intsD a)), .fz c.d, .fz (.str (word c.one)), .fz (.int c.p), .fz (.int c.v), .ow (.list []), .un, .un, .un] (by
      rintro k F ⟨t, i⟩ ρ hp hk ⟨s6, s7, s8, rfl⟩
      obtain ⟨t8, e⟩ := after_turn a c h0 F (by omega) t i s8
      exact ⟨_, _, rfl, .inl e, _, _, _, rfl⟩) (by
      rintro k F p hp hk
      simp; omega) (by simp; omega) ⟨_, _, _, rfl⟩
  have ef : a.zipIdx.foldl (fun F p => F ++ [putA c p.1 p.2]) [] = afterZ a c := by
    have gen : ∀ (xs : List (Int × Nat)) (F : List Int), xs.foldl (fun F p => F ++ [putA c p.1 p.2]) F = F ++ xs.map fun p => putA c p.1 p.2 := by
      intro xs
      induction xs with
      | nil => intro F; simp
      | cons x xs ih => intro F; rw [List.foldl_cons, ih]; simp
    rw [gen, List.nil_append]
    apply ext_getD
    · simp [afterZ_len]
    · intro i hi
      have hi : i < a.length := by simpa using hi
      unfold afterZ
      rw [updZ_get hi]
      simp only [List.getD, List.getElem?_map, List.getElem?_zipIdx, List.getElem?_eq_getElem hi, Option.map_some, Option.getD_some, putA, Nat.zero_add]
      unfold Cmd.end
      cases ho : c.one with
      | true =>
        simp
        by_cases h : c.p.toNat = i
        · rw [if_pos h, if_pos (by omega)]
        · rw [if_neg h, if_neg (by omega)]
      | false =>
        simp
        by_cases h : c.p.toNat ≤ i
        · rw [if_pos (by omega), if_pos ⟨by omega, hi⟩]
        · rw [if_neg (by omega), if_neg (by omega)]
  rw [ef] at e
  rw [← enumD_ints] at e
  have cd : c.d = .tuple [.str (word c.one), .int c.p, .int c.v] := rfl
  rw [cd] at e ⊢
  simp [F_after, M_after, e]
theorem last_of_ok (a : List Int) (cs : List Cmd) (ha : a.length ≤ 100000) (h : ∀ c ∈ cs, 0 ≤ c.p ∧ c.p < a.length) : F_last_of [] [.tuple (intsD a), .tuple (cmdsD cs)] = .ok (.tuple (intsD (lastZ a cs))) [] := by
  obtain ⟨ρ', e, hl, s2, rfl⟩ := forL_rel (t := .name 2) (f := L1_last_of) Cmd.d (fun b ρ => b.length = a.length ∧ ∃ s2, ρ = [.fz (.tuple (intsD b)), .fz (.tuple (cmdsD cs)), s2]) (fun b c => afterZ b c) cs a [.fz (.tuple (intsD a)), .fz (.tuple (cmdsD cs)), .un] (by
    rintro b c ρ hc ⟨hb, s2, rfl⟩
    obtain ⟨h0, h1⟩ := h c hc
    have e := after_ok b c h0 (by omega) (by omega)
    exact ⟨_, [.fz (.tuple (intsD (afterZ b c))), .fz (.tuple (cmdsD cs)), .fz c.d], rfl, .inl (by simp [L1_last_of, e]), by rw [afterZ_len, hb], _, rfl⟩) ⟨rfl, _, rfl⟩
  have e : forL (.name 2) L1_last_of (cmdsD cs) _ = _ := e
  simp [F_last_of, M_last_of, e]
  rfl
structure GoodC (len : Nat) (cs : List Cmd) : Prop where
  many : cs.length ≤ 60
  ok : ∀ c ∈ cs, c.ok len
theorem GoodC.places {len : Nat} {cs : List Cmd} (h : GoodC len cs) : ∀ c ∈ cs, 0 ≤ c.p ∧ c.p < len := fun c hc => by
  obtain ⟨h1, h2, _⟩ := h.ok c hc
  omega
theorem GoodC.req {a : List Int} {cs : List Cmd} (h : GoodC a.length cs) : F_require_script [] [.int a.length, .tuple (cmdsD cs)] = .ok .none [] := require_script_ok a.length cs h.many h.ok
theorem require_result_ok (a b : List Int) (k : GoodT b) (hl : b.length = a.length) : F_require_result [] [.tuple (intsD a), .tuple (intsD b)] = .ok .none [] := by
  simp [F_require_result, M_require_result, is_times_ints b k, hl]
theorem run_ok (a : List Int) (cs : List Cmd) (h : GoodT a) (k : GoodC a.length cs) : F_run [] [.tuple (intsD a), .tuple (cmdsD cs)] = .ok (.tuple (intsD (lastZ a cs))) [] := by
  simp [F_run, M_run, require_times_ok a h, k.req, last_of_ok a cs (by have := h.2.1; omega) k.places]
theorem missing_ok (a b : List Int) (cs : List Cmd) (h : GoodT a) (hb : GoodT b) (k : GoodC a.length cs) (hl : b.length = a.length) (hd : In (-4000000000000) 4000000000000 (shiftsZ (lastZ a cs) b)) :
    F_missing [] [.tuple (intsD a), .tuple (cmdsD cs), .tuple (intsD b)] = .ok (.list (cmdsD (dueZ (lastZ a cs) b))) [] := by
  have ha := h.2.1
  have l1 := lastZ_len cs a
  have sl : (shiftsZ (lastZ a cs) b).length = a.length := by rw [shiftsZ_len]; omega
  have c := commands_for_ok (shiftsZ (lastZ a cs) b) hd (by omega)
  rw [sl] at c
  rw [due_one (by omega) hd]
  simp [F_missing, M_missing, require_times_ok a h, k.req, require_result_ok a b hb hl, last_of_ok a cs (by omega) k.places, shifts_of_ok (lastZ a cs) b (by omega), c]
theorem is_amount_ok (v : Int) : F_is_amount [] [.int v] = .ok (.bool (decide (-4000000000000 ≤ v) && decide (v ≤ 4000000000000) && decide (v ≠ 0))) [] := by
  by_cases h : -4000000000000 ≤ v
  · by_cases h2 : v ≤ 4000000000000
    · simp [F_is_amount, M_is_amount, h, h2]
    · simp [F_is_amount, M_is_amount, h, h2]
  · simp [F_is_amount, M_is_amount, h]
theorem cut_pre {A B : List Cmd} {c : Cmd} : cut (cmdsD (A ++ c :: B)) none (some (A.length : Int)) = cmdsD A := by
  rw [cut_nn]; simp [cmdsD]
theorem cut_post {A B : List Cmd} {c : Cmd} : cut (cmdsD (A ++ c :: B)) (some ((A.length : Int) + 1)) none = cmdsD B := by
  have := cut_sn (cmdsD (A ++ c :: B)) (A.length + 1)
  rw [show (((A.length + 1 : Nat)) : Int) = (A.length : Int) + 1 by omega] at this
  rw [this]
  have e : cmdsD (A ++ c :: B) = cmdsD (A ++ [c]) ++ cmdsD B := by simp [cmdsD]
  rw [e, List.drop_left' (by simp [cmdsD])]
/-- the amount that is asked for -/
def amountZ (here b : List Int) (o : Bool) (p : Nat) : Option Int :=
  if b.getD p 0 - here.getD p 0 ≠ 0 ∧ -4000000000000 ≤ b.getD p 0 - here.getD p 0 ∧ b.getD p 0 - here.getD p 0 ≤ 4000000000000 ∧ afterZ here ⟨o, p, b.getD p 0 - here.getD p 0⟩ = b then some (b.getD p 0 - here.getD p 0) else none
theorem missing_amount_ok (a b : List Int) (A B : List Cmd) (o : Bool) (p : Nat) (v : Int) (h : GoodT a) (hb : GoodT b) (k : GoodC a.length (A ++ ⟨o, p, v⟩ :: B)) (hl : b.length = a.length) :
    F_missing_amount [] [.tuple (intsD a), .tuple (cmdsD (A ++ ⟨o, p, v⟩ :: B)), .int A.length, .tuple (intsD b)] = .ok (optD (amountZ (lastZ a (A ++ B)) b o p)) [] := by
  have ha := h.2.1
  have hm := k.many
  simp only [List.length_append, List.length_cons] at hm
  have l1 := lastZ_len (A ++ B) a
  have hp := k.places ⟨o, p, v⟩ (by simp)
  have hp2 : p < a.length := by have : (p : Int) < a.length := hp.2; omega
  have lo := last_of_ok a (A ++ B) (by omega) fun c hc => k.places c (by
    rcases List.mem_append.mp hc with q | q
    · simp [q]
    · simp [q])
  have at1 : atI (cmdsD (A ++ ⟨o, p, v⟩ :: B)) (A.length : Int) = some (.tuple [.str (word o), .int p, .int v]) := atI_nat (by simp [cmdsD, Cmd.d])
  have at2 := atI_ints (xs := b) (i := p) (by omega)
  have at3 := atI_ints (xs := lastZ a (A ++ B)) (i := p) (by omega)
  have ap : cmdsD A ++ cmdsD B = cmdsD (A ++ B) := by simp [cmdsD]
  have len : (cmdsD (A ++ ⟨o, p, v⟩ :: B)).length = A.length + (B.length + 1) := by simp [cmdsD]
  have l2 : (cmdsD A).length + (cmdsD B).length ≤ 1000000 := by simp [cmdsD]; omega
  have rq := k.req
  have i1 : (A.length : Int) ≤ ((A.length + (B.length + 1) : Nat) : Int) - 1 := by omega
  generalize hd : b.getD p 0 - (lastZ a (A ++ B)).getD p 0 = d at *
  have l3 := last_of_ok (lastZ a (A ++ B)) [⟨o, p, d⟩] (by omega) (by
    intro c hc
    have : c = ⟨o, p, d⟩ := by simpa using hc
    subst this
    exact ⟨by show (0 : Int) ≤ p; omega, by show (p : Int) < _; omega⟩)
  have l3 : F_last_of [] [.tuple (intsD (lastZ a (A ++ B))), .tuple [.tuple [.str (word o), .int p, .int d]]] = .ok (.tuple (intsD (afterZ (lastZ a (A ++ B)) ⟨o, p, d⟩))) [] := l3
  have am := is_amount_ok d
  unfold amountZ
  rw [hd]
  have i2 : (A.length : Int) ≤ (A.length : Int) + ((B.length : Int) + 1) - 1 := by omega
  by_cases h1 : d = 0
  · rw [if_neg (fun q => q.1 h1)]
    simp [F_missing_amount, M_missing_amount, require_times_ok a h, rq, require_result_ok a b hb hl, len, i2, cut_pre, cut_post, l2, ap, lo, at1, at2, at3, hd, am, h1, optD, -List.getD_eq_getElem?_getD]
  · by_cases h2 : -4000000000000 ≤ d
    · by_cases h3 : d ≤ 4000000000000
      · by_cases h4 : afterZ (lastZ a (A ++ B)) ⟨o, p, d⟩ = b
        · rw [if_pos ⟨h1, h2, h3, h4⟩]
          simp [F_missing_amount, M_missing_amount, require_times_ok a h, rq, require_result_ok a b hb hl, len, i2, cut_pre, cut_post, l2, ap, lo, at1, at2, at3, hd, am, h1, h2, h3, l3, h4, optD, -List.getD_eq_getElem?_getD]
        · rw [if_neg (fun q => h4 q.2.2.2)]
          simp [F_missing_amount, M_missing_amount, require_times_ok a h, rq, require_result_ok a b hb hl, len, i2, cut_pre, cut_post, l2, ap, lo, at1, at2, at3, hd, am, h1, h2, h3, l3, h4, optD, -List.getD_eq_getElem?_getD]
      · rw [if_neg (fun q => h3 q.2.2.1)]
        simp [F_missing_amount, M_missing_amount, require_times_ok a h, rq, require_result_ok a b hb hl, len, i2, cut_pre, cut_post, l2, ap, lo, at1, at2, at3, hd, am, h1, h2, h3, optD, -List.getD_eq_getElem?_getD]
    · rw [if_neg (fun q => h2 q.2.1)]
      simp [F_missing_amount, M_missing_amount, require_times_ok a h, rq, require_result_ok a b hb hl, len, i2, cut_pre, cut_post, l2, ap, lo, at1, at2, at3, hd, am, h1, h2, optD, -List.getD_eq_getElem?_getD]
theorem missing_amount_index (a : List Int) (cs : List Cmd) (i : D) (b : D) (h : GoodT a) (k : GoodC a.length cs) (hi : F_is_integer [] [i, .int 0, .int ((cs.length : Int) - 1)] = .ok (.bool false) []) :
    F_missing_amount [] [.tuple (intsD a), .tuple (cmdsD cs), i, b] = .ex "InvalidIndex" [] := by
  simp [F_missing_amount, M_missing_amount, require_times_ok a h, k.req, cmdsD_len, hi]
theorem last_swap (a : List Int) (A B : List Cmd) (c : Cmd) : lastZ a (A ++ c :: B) = afterZ (lastZ a (A ++ B)) c := by
  apply ext_getD
  · rw [lastZ_len, afterZ_len, lastZ_len]
  · intro i hi
    rw [lastZ_len] at hi
    have e : afterZ (lastZ a (A ++ B)) c = lastZ a (A ++ B ++ [c]) := by simp [lastZ]
    rw [e, lastZ_get _ _ hi, lastZ_get _ _ hi]
    simp
    omega
theorem perm_sum {xs ys : List Int} (h : xs.Perm ys) : xs.sum = ys.sum := by
  induction h with
  | nil => rfl
  | cons x _ ih => simp [ih]
  | swap x y l => simp; omega
  | trans _ _ h1 h2 => exact h1.trans h2
theorem last_perm (a : List Int) {A B : List Cmd} (h : A.Perm B) : lastZ a A = lastZ a B := by
  apply ext_getD
  · rw [lastZ_len, lastZ_len]
  · intro i hi
    rw [lastZ_len] at hi
    rw [lastZ_get _ _ hi, lastZ_get _ _ hi]
    congr 1
    exact perm_sum (h.map _)
theorem last_in (B : Int) (hB : 0 ≤ B) : ∀ (cs : List Cmd) (a : List Int) (A : Int), In (-A) A a → (∀ c ∈ cs, -B ≤ c.v ∧ c.v ≤ B) → In (-(A + B * cs.length)) (A + B * cs.length) (lastZ a cs)
  | [], a, A, h, _ => by simpa [lastZ] using h
  | c :: cs, a, A, h, hc => by
    have h1 : In (-(A + B)) (A + B) (afterZ a c) := by
      intro x hx
      simp only [afterZ, updZ, List.mem_map, List.mem_range] at hx
      obtain ⟨i, hi, rfl⟩ := hx
      have h2 := h (a.getD i 0) (by rw [List.getD, List.getElem?_eq_getElem hi]; simp)
      have h3 := hc c (by simp)
      split <;> omega
    have := last_in B hB cs (afterZ a c) (A + B) h1 fun d hd => hc d (by simp [hd])
    show In _ _ (lastZ (afterZ a c) cs)
    rw [show A + B * ((c :: cs).length : Nat) = A + B + B * cs.length by
      simp only [List.length_cons]
      rw [show ((cs.length + 1 : Nat) : Int) = (cs.length : Int) + 1 by omega, Int.mul_add]
      omega]
    exact this
end Cap
set_option Elab.async false
set_option linter.all false
set_option maxRecDepth 100000
set_option maxHeartbeats 2000000
namespace Cap
open PySem PySem.Spec L2 Mi
@[simp] theorem e_mTryAs {i : Nat} {names : List Str} {mb : Rho → SR} {mh : Str → Rho → SR} {ρ : Rho} : mTryAs i names mb mh ρ = (match mb ρ with
  | .ex n ρ1 => if n ∈ names ∧ i < ρ1.length then clrS i (mh n (ρ1.set i .un)) else .bad
  | r => r) := Eq.trans rfl rfl
@[simp] theorem e_clr1 {i : Nat} {ρ : Rho} : clrS i (.nx ρ) = .nx (ρ.set i .un) := Eq.trans rfl rfl
@[simp] theorem e_clr2 {i : Nat} {d : D} {ρ : Rho} : clrS i (.rt d ρ) = .rt d ρ := Eq.trans rfl rfl
theorem word_in (x : D) (h : x ∈ [(.str "one" : D), .str "following"]) : ∃ o, x = .str (word o) := by
  simp only [List.mem_cons, List.not_mem_nil, or_false] at h
  rcases h with rfl | rfl
  · exact ⟨true, rfl⟩
  · exact ⟨false, rfl⟩
theorem shifts_in {a b : List Int} (h : In (-1000000000000) 1000000000000 a) (k : In (-1000000000000) 1000000000000 b) : In (-4000000000000) 4000000000000 (shiftsZ a b) := by
  intro x hx
  simp only [shiftsZ, List.mem_map] at hx
  obtain ⟨p, hp, rfl⟩ := hx
  have h1 := h _ (List.of_mem_zip hp).1
  have h2 := k _ (List.of_mem_zip hp).2
  omega
theorem due_self (a : List Int) (h : GoodT a) : dueZ a a = [] := by
  unfold dueZ
  rw [flat_none, flat_none]
  · rfl
  · intro i hi; unfold dueAt; rw [if_neg]; intro q; exact q.1 (by omega)
  · intro i hi; unfold dueAt; rw [if_neg]; intro q; exact q.1 (by omega)
theorem due_mem (a : List Int) (c : Cmd) (h0 : 0 ≤ c.p) (h1 : c.p < a.length) (hv : c.v ≠ 0) (b1 : -4000000000000 ≤ c.v) (b2 : c.v ≤ 4000000000000) : c ∈ dueZ a (afterZ a c) := by
  obtain ⟨o, p, v⟩ := c
  obtain ⟨k, rfl⟩ := Int.eq_ofNat_of_zero_le h0
  have hk : k < a.length := by have : (k : Int) < a.length := h1; omega
  have g : (afterZ a ⟨o, k, v⟩).getD k 0 - a.getD k 0 = v := by
    unfold afterZ
    rw [updZ_get hk]
    have : (⟨o, k, v⟩ : Cmd).p.toNat ≤ k ∧ k < (⟨o, k, v⟩ : Cmd).end a.length := by
      cases o <;> simp [Cmd.end, hk]
    rw [if_pos this]
    show a.getD k 0 + v - a.getD k 0 = v
    omega
  have hm : (⟨o, k, v⟩ : Cmd) ∈ dueAt o a (afterZ a ⟨o, k, v⟩) k := by
    unfold dueAt
    rw [g, if_pos ⟨hv, b1, b2, rfl⟩]
    simp
  unfold dueZ
  rw [List.mem_append]
  cases o
  · exact .inl (List.mem_flatMap.mpr ⟨k, List.mem_range.mpr hk, hm⟩)
  · exact .inr (List.mem_flatMap.mpr ⟨k, List.mem_range.mpr hk, hm⟩)
theorem after_diff (a : List Int) (o : Bool) (p : Nat) (v : Int) (hp : p < a.length) : (afterZ a ⟨o, p, v⟩).getD p 0 - a.getD p 0 = v := by
  unfold afterZ
  rw [updZ_get hp]
  have : (⟨o, p, v⟩ : Cmd).p.toNat ≤ p ∧ p < (⟨o, p, v⟩ : Cmd).end a.length := by
    cases o <;> simp [Cmd.end, hp]
  rw [if_pos this]
  show a.getD p 0 + v - a.getD p 0 = v
  omega
theorem amount_after (a : List Int) (o : Bool) (p : Nat) (v : Int) (hp : p < a.length) (h0 : v ≠ 0) (h1 : -4000000000000 ≤ v) (h2 : v ≤ 4000000000000) : amountZ a (afterZ a ⟨o, p, v⟩) o p = some v := by
  unfold amountZ
  rw [after_diff a o p v hp, if_pos ⟨h0, h1, h2, rfl⟩]
theorem due_at (o : Bool) (a b : List Int) (p : Nat) : dueAt o a b p = match amountZ a b o p with
    | some d => [⟨o, p, d⟩]
    | none => [] := by
  unfold dueAt amountZ
  split <;> rfl
theorem due_filter (o : Bool) (a b : List Int) (p : Nat) (hp : p < a.length) : (dueZ a b).filter (fun c => decide (c.one = o) && decide (c.p = (p : Int))) = dueAt o a b p := by
  have inn : ∀ (q : Bool) (i : Nat), i < a.length → (dueAt q a b i).filter (fun c => decide (c.one = o) && decide (c.p = (p : Int))) = if q = o ∧ i = p then dueAt q a b i else [] := by
    intro q i _
    rw [due_at]
    cases amountZ a b q i with
    | none => simp
    | some d =>
      by_cases h : q = o ∧ i = p
      · simp [h]
      · rw [if_neg h]
        rw [List.filter_eq_nil_iff]
        intro c hc
        have : c = ⟨q, i, d⟩ := by simpa using hc
        subst this
        simp only [Bool.and_eq_true, decide_eq_true_eq, not_and]
        intro e1 e2
        exact h ⟨e1, by omega⟩
  unfold dueZ
  rw [List.filter_append, List.filter_flatMap, List.filter_flatMap]
  cases o with
  | false =>
    rw [flat_one hp fun i hi hne => by rw [inn false i hi, if_neg (fun z => hne z.2)], inn false p hp, if_pos ⟨rfl, rfl⟩, flat_none fun i hi => by rw [inn true i hi, if_neg (by simp)], List.append_nil]
  | true =>
    rw [flat_none fun i hi => by rw [inn false i hi, if_neg (by simp)], flat_one hp fun i hi hne => by rw [inn true i hi, if_neg (fun z => hne z.2)], inn true p hp, if_pos ⟨rfl, rfl⟩, List.nil_append]
theorem opt_refl (a : Option Int) : neD (optD a) (optD a) = some (.bool false) := by
  cases a with
  | none => rfl
  | some v => simp [optD]
theorem eq_head (o1 o2 : Bool) (p1 p2 : Int) : eqD (.tuple [.str (word o1), .int p1]) (.tuple [.str (word o2), .int p2]) = some (.bool (decide (o1 = o2) && decide (p1 = p2))) := by
  rw [eqD_of (by simp [PyData.plain, PyData.plainAll]) (by simp [PyData.plain, PyData.plainAll]) (.inl (by simp [PyData.depth, PyData.depthAll]))]
  have w : (word o1 == word o2) = decide (o1 = o2) := by cases o1 <;> cases o2 <;> rfl
  by_cases h : p1 = p2
  · subst h; simp [PyData.eqv, PyData.eqvAll, w]
  · simp [PyData.eqv, PyData.eqvAll, w, h]
end Cap
set_option Elab.async false
set_option linter.all false
set_option maxRecDepth 100000
set_option maxHeartbeats 2000000
namespace Cap
open PySem PySem.Spec L2 Mi
def keepsZ (a : List Int) (g : Int) : Bool := (a.zip a.tail).all fun p => decide (g ≤ p.2 - p.1)
theorem keeps_iff (a : List Int) (g : Int) : keepsZ a g = true ↔ ∀ i, i + 1 < a.length → g ≤ a.getD (i + 1) 0 - a.getD i 0 := by
  have hz : ∀ i, i + 1 < a.length → (a.zip a.tail)[i]? = some (a.getD i 0, a.getD (i + 1) 0) := by
    intro i hi
    rw [List.getElem?_eq_getElem (by simp; omega)]
    simp [List.getD, List.getElem?_eq_getElem hi, List.getElem?_eq_getElem (show i < a.length by omega)]
  unfold keepsZ
  rw [List.all_eq_true]
  constructor
  · intro h i hi
    have := h _ (List.mem_of_getElem? (hz i hi))
    simpa using this
  · intro h p hp
    obtain ⟨i, hi⟩ := List.mem_iff_getElem?.mp hp
    have hl : i < (a.zip a.tail).length := (List.getElem?_eq_some_iff.mp hi).1
    have hl : i + 1 < a.length := by simp at hl; omega
    rw [hz i hl] at hi
    cases hi
    simpa using h i hl
/-- what a command adds to the distance between the places i and i + 1 -/
def dl (i : Nat) (c : Cmd) : Int := (if c.p = (i : Int) + 1 then c.v else 0) - (if c.one = true ∧ c.p = (i : Int) then c.v else 0)
theorem eff_dl {n i : Nat} {c : Cmd} (h0 : 0 ≤ c.p) (hi : i + 1 < n) : eff n c (i + 1) - eff n c i = dl i c := by
  obtain ⟨o, p, v⟩ := c
  obtain ⟨k, rfl⟩ := Int.eq_ofNat_of_zero_le h0
  unfold eff dl Cmd.end
  simp only [Int.toNat_natCast]
  cases o with
  | true =>
    simp only [if_true, true_and]
    by_cases h1 : k = i + 1
    · subst h1
      rw [if_pos (by omega), if_neg (by omega), if_pos (by omega), if_neg (by omega)]
    · by_cases h2 : k = i
      · subst h2
        rw [if_neg (by omega), if_pos (by omega), if_neg (by omega), if_pos (by omega)]
      · rw [if_neg (by omega), if_neg (by omega), if_neg (by omega), if_neg (by omega)]
  | false =>
    simp only [Bool.false_eq_true, if_false, false_and]
    by_cases h1 : k = i + 1
    · subst h1
      rw [if_pos (by omega), if_neg (by omega), if_pos (by omega)]
    · by_cases h2 : k ≤ i
      · rw [if_pos (by omega), if_pos (by omega), if_neg (by omega)]; omega
      · rw [if_neg (by omega), if_neg (by omega), if_neg (by omega)]
theorem after_dist {a : List Int} {c : Cmd} {i : Nat} (h0 : 0 ≤ c.p) (hi : i + 1 < a.length) : (afterZ a c).getD (i + 1) 0 - (afterZ a c).getD i 0 = a.getD (i + 1) 0 - a.getD i 0 + dl i c := by
  have e1 := lastZ_get (i := i + 1) [c] a hi
  have e2 := lastZ_get (i := i) [c] a (by omega)
  have := eff_dl (c := c) h0 hi
  rw [show lastZ a [c] = afterZ a c from rfl] at e1 e2
  simp only [List.map_cons, List.map_nil, List.sum_cons, List.sum_nil] at e1 e2
  omega
theorem last_dist {a : List Int} {i : Nat} : ∀ {cs : List Cmd}, (∀ c ∈ cs, 0 ≤ c.p) → i + 1 < a.length → (lastZ a cs).getD (i + 1) 0 - (lastZ a cs).getD i 0 = a.getD (i + 1) 0 - a.getD i 0 + (cs.map (dl i)).sum := by
  intro cs h hi
  rw [lastZ_get _ _ hi, lastZ_get (i := i) _ _ (by omega)]
  have : (cs.map fun c => eff a.length c (i + 1)).sum - (cs.map fun c => eff a.length c i).sum = (cs.map (dl i)).sum := by
    rw [sum_sub]
    congr 1
    exact List.map_congr_left fun c hc => eff_dl (h c hc) hi
  omega
theorem sum_zero {f : Cmd → Int} : ∀ {cs : List Cmd}, (∀ d ∈ cs, f d = 0) → (cs.map f).sum = 0
  | [], _ => rfl
  | c :: cs, h => by
    have := sum_zero (f := f) (cs := cs) fun d hd => h d (by simp [hd])
    have := h c (by simp)
    simp only [List.map_cons, List.sum_cons]; omega
theorem sum_le {f g : Cmd → Int} : ∀ {cs : List Cmd}, (∀ d ∈ cs, f d ≤ g d) → (cs.map f).sum ≤ (cs.map g).sum
  | [], _ => Int.le_refl _
  | c :: cs, h => by
    have := sum_le (f := f) (g := g) (cs := cs) fun d hd => h d (by simp [hd])
    have := h c (by simp)
    simp only [List.map_cons, List.sum_cons]; omega
theorem sum_only {f : Cmd → Int} {c : Cmd} : ∀ {cs : List Cmd}, (cs.map (·.p)).Nodup → c ∈ cs → (∀ d ∈ cs, d.p ≠ c.p → f d = 0) → (cs.map f).sum = f c
  | x :: cs, nd, hc, h => by
    rw [List.map_cons, List.nodup_cons] at nd
    rw [List.map_cons, List.sum_cons]
    rcases List.mem_cons.mp hc with rfl | hc
    · rw [sum_zero fun d hd => h d (by simp [hd]) fun q => nd.1 (q ▸ List.mem_map_of_mem hd)]
      omega
    · have hx : x.p ≠ c.p := fun q => nd.1 (q ▸ List.mem_map_of_mem hc)
      rw [h x (by simp) hx, sum_only nd.2 hc fun d hd => h d (by simp [hd])]
      omega
structure SafeC (n : Nat) (rest : List Cmd) : Prop where
  nd : (rest.map (·.p)).Nodup
  at_ : ∀ c ∈ rest, 0 ≤ c.p ∧ c.p < n
  one : ∀ c ∈ rest, c.one = true → c.p + 1 < n
  apart : ∀ c ∈ rest, ∀ d ∈ rest, c.one = false → d.one = true → d.p + 1 ≠ c.p
theorem SafeC.sub {n : Nat} {xs ys : List Cmd} (h : SafeC n ys) (s : xs.Sublist ys) : SafeC n xs :=
  ⟨h.nd.sublist (s.map _), fun c hc => h.at_ c (s.subset hc), fun c hc => h.one c (s.subset hc), fun c hc d hd => h.apart c (s.subset hc) d (s.subset hd)⟩
theorem max_place : ∀ {cs : List Cmd}, cs ≠ [] → ∃ c ∈ cs, ∀ d ∈ cs, d.p ≤ c.p
  | [c], _ => ⟨c, by simp, by simp⟩
  | c :: b :: cs, _ => by
    obtain ⟨x, hx, h⟩ := max_place (cs := b :: cs) (by simp)
    by_cases q : x.p ≤ c.p
    · refine ⟨c, by simp, fun d hd => ?_⟩
      rcases List.mem_cons.mp hd with rfl | hd
      · exact Int.le_refl _
      · have := h d hd; omega
    · refine ⟨x, by simp [hx], fun d hd => ?_⟩
      rcases List.mem_cons.mp hd with rfl | hd
      · omega
      · exact h d hd
theorem min_place : ∀ {cs : List Cmd}, cs ≠ [] → ∃ c ∈ cs, ∀ d ∈ cs, c.p ≤ d.p
  | [c], _ => ⟨c, by simp, by simp⟩
  | c :: b :: cs, _ => by
    obtain ⟨x, hx, h⟩ := min_place (cs := b :: cs) (by simp)
    by_cases q : c.p ≤ x.p
    · refine ⟨c, by simp, fun d hd => ?_⟩
      rcases List.mem_cons.mp hd with rfl | hd
      · exact Int.le_refl _
      · have := h d hd; omega
    · refine ⟨x, by simp [hx], fun d hd => ?_⟩
      rcases List.mem_cons.mp hd with rfl | hd
      · omega
      · exact h d hd
theorem exists_next {a : List Int} {rest : List Cmd} {g : Int} (h : SafeC a.length rest) (hk : keepsZ a g = true) (ht : keepsZ (lastZ a rest) g = true) (hne : rest ≠ []) : ∃ c ∈ rest, keepsZ (afterZ a c) g = true := by
  rw [keeps_iff] at hk ht
  rw [lastZ_len] at ht
  have hp : ∀ c ∈ rest, 0 ≤ c.p := fun c hc => (h.at_ c hc).1
  have T : ∀ i, i + 1 < a.length → g ≤ a.getD (i + 1) 0 - a.getD i 0 + (rest.map (dl i)).sum := fun i hi => by
    rw [← last_dist hp hi]; exact ht i hi
  -- enough: where the distance grows less, the sum tells
  have enough : ∀ c ∈ rest, (∀ i : Nat, i + 1 < a.length → dl i c < 0 → (rest.map (dl i)).sum ≤ dl i c) → keepsZ (afterZ a c) g = true := by
    intro c hc hh
    rw [keeps_iff]
    intro i hi
    rw [afterZ_len] at hi
    rw [after_dist (hp c hc) hi]
    by_cases q : dl i c < 0
    · have := hh i hi q
      have := T i hi
      omega
    · have := hk i hi
      omega
  by_cases F : ∃ c ∈ rest, c.one = false
  · obtain ⟨c, hc, ho⟩ := F
    refine ⟨c, hc, enough c hc fun i hi hneg => ?_⟩
    have e : c.p = (i : Int) + 1 := by
      unfold dl at hneg
      rw [ho] at hneg
      simp only [Bool.false_eq_true, false_and, if_false] at hneg
      split at hneg
      · assumption
      · omega
    refine Int.le_of_eq (sum_only h.nd hc fun d hd hne => ?_)
    unfold dl
    rw [if_neg (by omega), if_neg]
    · rfl
    · rintro ⟨o1, o2⟩
      exact h.apart c hc d hd ho o1 (by omega)
  · have allO : ∀ c ∈ rest, c.one = true := fun c hc => by
      cases ho : c.one with
      | true => rfl
      | false => exact absurd ⟨c, hc, ho⟩ F
    by_cases P : ∃ c ∈ rest, 0 < c.v
    · obtain ⟨c0, hc0, hv0⟩ := P
      obtain ⟨c, hc, hmax⟩ := max_place (cs := rest.filter fun c => decide (0 < c.v)) (fun q => by
        have := List.filter_eq_nil_iff.mp q c0 hc0
        simp at this; omega)
      obtain ⟨hc, hv⟩ := List.mem_filter.mp hc
      have hv : 0 < c.v := by simpa using hv
      refine ⟨c, hc, enough c hc fun i hi hneg => ?_⟩
      have e : c.p = (i : Int) := by
        unfold dl at hneg
        by_cases q : c.p = (i : Int)
        · exact q
        · rw [if_neg (c := c.one = true ∧ c.p = (i : Int)) (fun z => q z.2)] at hneg
          split at hneg <;> omega
      have le := sum_le (f := dl i) (g := fun d => if d.p = c.p then dl i d else 0) (cs := rest) fun d hd => by
        by_cases q : d.p = c.p
        · rw [if_pos q]; exact Int.le_refl _
        · rw [if_neg q]
          unfold dl
          rw [if_neg (c := d.one = true ∧ d.p = (i : Int)) (fun z => q (by omega))]
          by_cases z : d.p = (i : Int) + 1
          · rw [if_pos z]
            by_cases w : 0 < d.v
            · have := hmax d (List.mem_filter.mpr ⟨hd, by simpa using w⟩)
              omega
            · omega
          · rw [if_neg z]; omega
      rw [sum_only (c := c) h.nd hc fun d hd hne => if_neg hne, if_pos rfl] at le
      exact le
    · obtain ⟨c, hc, hmin⟩ := min_place hne
      refine ⟨c, hc, enough c hc fun i hi hneg => ?_⟩
      have hv : ¬ 0 < c.v := fun q => P ⟨c, hc, q⟩
      have e : c.p = (i : Int) + 1 := by
        unfold dl at hneg
        by_cases q : c.p = (i : Int) + 1
        · exact q
        · rw [if_neg q] at hneg
          split at hneg <;> omega
      refine Int.le_of_eq (sum_only h.nd hc fun d hd hne => ?_)
      have := hmin d hd
      unfold dl
      rw [if_neg (by omega), if_neg (fun z => by omega)]
      rfl
theorem plan_safe (m : List Int) : SafeC m.length (planZ m) := by
  have hP := retZ_P m
  have ones : ∀ c ∈ (retZ m).flatMap (onesOf m), ∃ p ∈ retZ m, ∃ k : Nat, p.1 ≤ k ∧ k < p.2 ∧ p.2 < m.length ∧ c.one = true ∧ c.p = k := by
    intro c hc
    obtain ⟨p, hp, hc⟩ := List.mem_flatMap.mp hc
    obtain ⟨_, _, p3, _, _⟩ := hP.mem hp
    simp only [onesOf, List.mem_map, List.mem_range'_1] at hc
    obtain ⟨k, hk, rfl⟩ := hc
    exact ⟨p, hp, k, by omega, by omega, p3, rfl, rfl⟩
  have fol : ∀ c ∈ followsOf m (retZ m), ∃ k : Nat, k ∉ insideZ (retZ m) ∧ c.one = false ∧ c.p = k := by
    intro c hc
    simp only [followsOf, List.mem_map, List.mem_filter] at hc
    obtain ⟨k, ⟨hk, hn⟩, rfl⟩ := hc
    exact ⟨k, by simpa using hn, rfl, rfl⟩
  have ndo : ∀ (ps : List (Nat × Nat)) (lo : Nat), RetP m lo ps → ((ps.flatMap (onesOf m)).map (·.p)).Nodup ∧ ∀ c ∈ ps.flatMap (onesOf m), (lo : Int) ≤ c.p := by
    intro ps
    induction ps with
    | nil => intro lo _; simp
    | cons p r ih =>
      intro lo ⟨a, b, c, d, e, f⟩
      obtain ⟨i1, i2⟩ := ih _ f
      have here : ∀ c ∈ onesOf m p, (p.1 : Int) ≤ c.p ∧ c.p < p.2 := by
        intro c hc
        simp only [onesOf, List.mem_map, List.mem_range'_1] at hc
        obtain ⟨k, hk, rfl⟩ := hc
        exact ⟨by show (p.1 : Int) ≤ (k : Int); omega, by show (k : Int) < _; omega⟩
      rw [List.flatMap_cons, List.map_append]
      refine ⟨List.nodup_append.mpr ⟨?_, i1, fun x hx y hy => ?_⟩, fun c hc => ?_⟩
      · unfold onesOf
        rw [List.map_map]
        refine List.pairwise_map.mpr (List.Pairwise.imp (fun {x y} hne hxy => hne ?_) List.nodup_range')
        have : (x : Int) = (y : Int) := hxy
        omega
      · obtain ⟨c1, h1, rfl⟩ := List.mem_map.mp hx
        obtain ⟨c2, h2, rfl⟩ := List.mem_map.mp hy
        have := here c1 h1
        have := i2 c2 h2
        omega
      · rcases List.mem_append.mp hc with hc | hc
        · have := here c hc; omega
        · have := i2 c hc; omega
  refine ⟨?_, plan_places m, fun c hc ho => ?_, fun c hc d hd ho od => ?_⟩
  · unfold planZ
    rw [List.map_append]
    refine List.nodup_append.mpr ⟨(ndo _ 0 hP).1, ?_, fun x hx y hy => ?_⟩
    · unfold followsOf
      rw [List.map_map]
      refine List.pairwise_map.mpr (((List.nodup_range.filter _).filter _).imp fun {x y} hne hxy => hne ?_)
      have : (x : Int) = (y : Int) := hxy
      omega
    · obtain ⟨c1, h1, rfl⟩ := List.mem_map.mp hx
      obtain ⟨c2, h2, rfl⟩ := List.mem_map.mp hy
      obtain ⟨p, hp, k, a1, a2, _, _, a4⟩ := ones c1 h1
      obtain ⟨j, b1, _, b3⟩ := fol c2 h2
      intro q
      have : j = k := by omega
      subst this
      exact b1 (mem_inside.mpr ⟨p, hp, a1, by omega⟩)
  · rcases List.mem_append.mp hc with hc | hc
    · obtain ⟨p, hp, k, a1, a2, a3, _, a4⟩ := ones c hc
      omega
    · obtain ⟨j, _, b2, _⟩ := fol c hc
      rw [ho] at b2; cases b2
  · rcases List.mem_append.mp hc with hc | hc
    · obtain ⟨p, hp, k, a1, a2, a3, o, a4⟩ := ones c hc
      rw [ho] at o; cases o
    · rcases List.mem_append.mp hd with hd | hd
      · obtain ⟨j, b1, _, b3⟩ := fol c hc
        obtain ⟨p, hp, k, a1, a2, a3, _, a4⟩ := ones d hd
        intro q
        have : j = k + 1 := by omega
        subst this
        exact b1 (mem_inside.mpr ⟨p, hp, by omega, by omega⟩)
      · obtain ⟨j, _, b2, _⟩ := fol d hd
        rw [od] at b2; cases b2
def splitC (p : Cmd → Bool) : List Cmd → Option (Cmd × List Cmd)
  | [] => none
  | c :: r => if p c then some (c, r) else (splitC p r).map fun q => (q.1, c :: q.2)
theorem split_some {p : Cmd → Bool} : ∀ {cs : List Cmd} {c : Cmd} {r : List Cmd}, splitC p cs = some (c, r) → ∃ A B, cs = A ++ c :: B ∧ r = A ++ B ∧ p c = true ∧ ∀ x ∈ A, p x = false
  | [], c, r, h => by cases h
  | x :: cs, c, r, h => by
    unfold splitC at h
    split at h
    · rename_i q
      cases h
      exact ⟨[], cs, rfl, rfl, q, by simp⟩
    · rename_i q
      obtain ⟨⟨c', r'⟩, h1, h2⟩ := Option.map_eq_some_iff.mp h
      cases h2
      obtain ⟨A, B, e1, e2, e3, e4⟩ := split_some h1
      exact ⟨x :: A, B, by simp [e1], by simp [e2], e3, fun y hy => by
        rcases List.mem_cons.mp hy with rfl | hy
        · simpa using q
        · exact e4 y hy⟩
theorem split_none {p : Cmd → Bool} : ∀ {cs : List Cmd}, splitC p cs = none → ∀ x ∈ cs, p x = false
  | [], _, x, hx => by cases hx
  | y :: cs, h, x, hx => by
    unfold splitC at h
    split at h
    · cases h
    · rename_i q
      rcases List.mem_cons.mp hx with rfl | hx
      · simpa using q
      · exact split_none (Option.map_eq_none_iff.mp h) x hx
def okC (g : Int) (a : List Int) (c : Cmd) : Bool := keepsZ (afterZ a c) g
def steadyRun (g : Int) : Nat → List Int → List Cmd → List Cmd
  | 0, _, _ => []
  | k + 1, a, rest => match splitC (okC g a) rest with
    | none => []
    | some q => q.1 :: steadyRun g k (afterZ a q.1) q.2
def RunOk (g : Int) : List Int → List Cmd → Prop
  | _, [] => True
  | a, c :: cs => keepsZ (afterZ a c) g = true ∧ RunOk g (afterZ a c) cs
theorem next_split {a : List Int} {rest : List Cmd} {g : Int} (h : SafeC a.length rest) (hk : keepsZ a g = true) (ht : keepsZ (lastZ a rest) g = true) (hne : rest ≠ []) :
    ∃ c A B, splitC (okC g a) rest = some (c, A ++ B) ∧ rest = A ++ c :: B ∧ keepsZ (afterZ a c) g = true ∧ (∀ x ∈ A, keepsZ (afterZ a x) g = false) ∧ SafeC (afterZ a c).length (A ++ B) ∧ keepsZ (lastZ (afterZ a c) (A ++ B)) g = true := by
  cases q : splitC (okC g a) rest with
  | none =>
    obtain ⟨c, hc, hok⟩ := exists_next h hk ht hne
    have := split_none q c hc
    unfold okC at this
    rw [hok] at this; cases this
  | some s =>
    obtain ⟨c, r⟩ := s
    obtain ⟨A, B, e1, e2, e3, e4⟩ := split_some q
    subst e2
    refine ⟨c, A, B, rfl, e1, e3, e4, ?_, ?_⟩
    · rw [afterZ_len]
      refine h.sub ?_
      rw [e1]
      exact List.Sublist.append (List.Sublist.refl _) (List.sublist_cons_self _ _)
    · have : lastZ (afterZ a c) (A ++ B) = lastZ a rest := by
        rw [e1]
        exact last_perm a (A := c :: (A ++ B)) List.perm_middle.symm
      rw [this]; exact ht
theorem run_all {g : Int} : ∀ (k : Nat) (a : List Int) (rest : List Cmd), SafeC a.length rest → keepsZ a g = true → keepsZ (lastZ a rest) g = true → rest.length ≤ k → RunOk g a (steadyRun g k a rest) ∧ (steadyRun g k a rest).Perm rest
  | 0, a, rest, _, _, _, hl => by
    have : rest = [] := List.eq_nil_of_length_eq_zero (by omega)
    subst this
    exact ⟨trivial, .refl _⟩
  | k + 1, a, [], _, _, _, hl => ⟨trivial, .refl _⟩
  | k + 1, a, x :: xs, h, hk, ht, hl => by
    obtain ⟨c, A, B, e1, e2, e3, e4, e5, e6⟩ := next_split h hk ht (by simp)
    have hl2 : (A ++ B).length ≤ k := by
      have := congrArg List.length e2
      simp only [List.length_append, List.length_cons] at this hl ⊢
      omega
    obtain ⟨r1, r2⟩ := run_all k (afterZ a c) (A ++ B) e5 e3 e6 hl2
    unfold steadyRun
    rw [e1]
    refine ⟨⟨e3, r1⟩, ?_⟩
    rw [e2]
    exact (r2.cons c).trans List.perm_middle.symm
end Cap
set_option Elab.async false
set_option linter.all false
set_option maxRecDepth 100000
set_option maxHeartbeats 4000000
namespace Cap
open PySem PySem.Spec L2 Mi
theorem cut_one (xs : List Int) : cut (intsD xs) (some 1) none = intsD xs.tail := by
  have := cut_sn (intsD xs) 1
  rw [show ((1 : Nat) : Int) = 1 from rfl] at this
  rw [this]
  simp [intsD]
theorem keeps_fn (d : D) (a : List Int) (g : Int) (hd : d = .tuple (intsD a) ∨ d = .list (intsD a)) (hl : a.length ≤ 900000) : F_keeps [] [d, .int g] = .ok (.bool (keepsZ a g)) [] := by
  have e := lcL_mapT (vs := [2, 3]) (t := .tup [2, 3]) (fe := C1_keeps) (ρ := [.fz d, .fz (.int g), .un, .un]) (fun p : Int × Int => .tuple [.int p.1, .int p.2]) (fun p => .bool (decide (g ≤ p.2 - p.1))) (a.zip a.tail) fun x _ =>
    ⟨[.fz d, .fz (.int g), .fz (.int x.1), .fz (.int x.2)], by simp [wipeR], by simp [C1_keeps], by simp [backR, keepS]⟩
  have e3 : (a.zip a.tail).map (fun p => PyData.bool (decide (g ≤ p.2 - p.1))) = ((a.zip a.tail).map fun p => decide (g ≤ p.2 - p.1)).map PyData.bool := by simp
  rw [e3] at e
  have hz : a.length ≤ 1000001 := by omega
  rcases hd with rfl | rfl
  · simp [F_keeps, M_keeps, cut_one, zipD_ints, e, hz, -List.map_map]
    simp [keepsZ, Function.comp_def]
  · simp [F_keeps, M_keeps, cut_one, zipD_ints, e, hz, -List.map_map]
    simp [keepsZ, Function.comp_def]
theorem keeps_ok (a : List Int) (g : Int) (hl : a.length ≤ 900000) : F_keeps [] [.tuple (intsD a), .int g] = .ok (.bool (keepsZ a g)) [] := keeps_fn _ a g (.inl rfl) hl
theorem require_gap_ok (g : Int) (h0 : 0 ≤ g) (h1 : g ≤ 1000000000000) : F_require_gap [] [.int g] = .ok .none [] := by
  simp [F_require_gap, M_require_gap, h0, h1]
theorem is_steady_ok (a : List Int) (g : Int) (h : GoodT a) (h0 : 0 ≤ g) (h1 : g ≤ 1000000000000) : F_is_steady [] [.tuple (intsD a), .int g] = .ok (.bool (keepsZ a g)) [] := by
  have := h.2.1
  simp [F_is_steady, M_is_steady, require_times_ok a h, require_gap_ok g h0 h1, keeps_ok a g (by omega)]
theorem cmd_eqv_iff (c d : Cmd) : PyData.eqv c.d d.d = true ↔ c = d := by
  obtain ⟨o1, p1, v1⟩ := c
  obtain ⟨o2, p2, v2⟩ := d
  have w : (word o1 == word o2) = decide (o1 = o2) := by cases o1 <;> cases o2 <;> rfl
  simp [Cmd.d, PyData.eqv, PyData.eqvAll, w]
theorem find_cmd {A B : List Cmd} {c : Cmd} (h : c ∉ A) : findD c.d (cmdsD (A ++ c :: B)) = some A.length := by
  induction A with
  | nil => simp [cmdsD, findD, cmd_eqv]
  | cons x A ih =>
    have hx : ¬ PyData.eqv x.d c.d = true := fun q => h (by rw [(cmd_eqv_iff x c).mp q]; simp)
    rw [List.cons_append, show cmdsD (x :: (A ++ c :: B)) = x.d :: cmdsD (A ++ c :: B) from rfl, findD, if_neg hx, ih (fun q => h (by simp [q]))]
    rfl
theorem erase_cmd {A B : List Cmd} {c : Cmd} : (cmdsD (A ++ c :: B)).eraseIdx A.length = cmdsD (A ++ B) := by
  simp only [cmdsD, List.map_append, List.map_cons]
  rw [List.eraseIdx_append_of_length_le (by simp)]
  simp
theorem filter_first {p : Cmd → Bool} {A B : List Cmd} {c : Cmd} (hA : ∀ x ∈ A, p x = false) (hc : p c = true) : (A ++ c :: B).filter p = c :: B.filter p := by
  rw [List.filter_append, List.filter_eq_nil_iff.mpr (by simpa using hA), List.nil_append, List.filter_cons_of_pos hc]
theorem steady_turn (first second : D) (g : Int) (a : List Int) (A B F : List Cmd) (c : Cmd) (ha : a.length ≤ 10000) (hs : SafeC a.length (A ++ c :: B)) (hl : (A ++ c :: B).length ≤ 10000) (hF : F.length ≤ 10000)
    (h1 : keepsZ (afterZ a c) g = true) (h2 : ∀ x ∈ A, keepsZ (afterZ a x) g = false) (s6 : Slot) :
    L1_steady_plan [.fz first, .fz second, .fz (.int g), .ow (.list (cmdsD (A ++ c :: B))), .ow (.list (cmdsD F)), .fz (.tuple (intsD a)), s6, .un] =
      .nx [.fz first, .fz second, .fz (.int g), .ow (.list (cmdsD (A ++ B))), .ow (.list (cmdsD (F ++ [c]))), .fz (.tuple (intsD (afterZ a c))), .fz c.d, .un] := by
  have comp := lcO_filter (j := 3) (vs := [7]) (t := .name 7) (ft := T1_steady_plan) (fe := C1_steady_plan)
    (ρ := [.fz first, .fz second, .fz (.int g), .ow (.list (cmdsD (A ++ c :: B))), .ow (.list (cmdsD F)), .fz (.tuple (intsD a)), s6, .un])
    Cmd.d Cmd.d (fun x => keepsZ (afterZ a x) g) (A ++ c :: B) rfl (by
      intro x hx
      have hp := hs.at_ x hx
      refine ⟨[.fz first, .fz second, .fz (.int g), .ow (.list (cmdsD (A ++ c :: B))), .ow (.list (cmdsD F)), .fz (.tuple (intsD a)), s6, .fz x.d], by simp [wipeR], ?_, by simp [C1_steady_plan], by simp [backR, keepS]⟩
      simp [T1_steady_plan, after_ok a x hp.1 hp.2 (by omega), keeps_ok (afterZ a x) g (by rw [afterZ_len]; omega)])
  rw [filter_first h2 h1] at comp
  have hp := hs.at_ c (by simp)
  have hcA : c ∉ A := fun q => by have := h2 c q; rw [h1] at this; cases this
  have io : inOk c.d (cmdsD (A ++ c :: B)) = true := by
    unfold inOk
    rw [cmds_plain]
    simp [cmd_plain, cmd_depth]
    omega
  have f1 : (cmdsD F).length < 1000000 := by rw [cmdsD_len]; omega
  have l1 : (cmdsD (A ++ c :: B)).length ≤ 1000000 := by rw [cmdsD_len]; omega
  have l2 : (cmdsD (A ++ c :: B)).length = (A ++ c :: B).length := cmdsD_len _
  rw [← l2] at comp
  have fd := find_cmd (B := B) hcA
  have er := erase_cmd (A := A) (B := B) (c := c)
  have ap : cmdsD F ++ [c.d] = cmdsD (F ++ [c]) := by simp [cmdsD]
  generalize cmdsD (A ++ c :: B) = R at *
  simp only [L1_steady_plan, e_mSeq]
  simp [l1, comp, after_ok a c hp.1 hp.2 (by omega), io, fd, er, f1, ap]
theorem steady_loop (first second : D) (g : Int) : ∀ (k j : Nat) (a : List Int) (rest F : List Cmd) (s6 : Slot), a.length ≤ 10000 → SafeC a.length rest → keepsZ a g = true → keepsZ (lastZ a rest) g = true → rest.length ≤ k → rest.length < j → rest.length + F.length ≤ 10000 →
    ∃ t5 t6, mWhile W1_steady_plan L1_steady_plan j [.fz first, .fz second, .fz (.int g), .ow (.list (cmdsD rest)), .ow (.list (cmdsD F)), .fz (.tuple (intsD a)), s6, .un] =
      .nx [.fz first, .fz second, .fz (.int g), .ow (.list []), .ow (.list (cmdsD (F ++ steadyRun g k a rest))), t5, t6, .un] := by
  intro k
  induction k with
  | zero =>
    intro j a rest F s6 _ _ _ _ hk hj _
    have : rest = [] := List.eq_nil_of_length_eq_zero (by omega)
    subst this
    obtain ⟨j, rfl⟩ : ∃ j', j = j' + 1 := ⟨j - 1, by omega⟩
    exact ⟨.fz (.tuple (intsD a)), s6, by simp [mWhile, W1_steady_plan, cmdsD, steadyRun]⟩
  | succ k ih =>
    intro j a rest F s6 ha hs hk ht hl hj hF
    obtain ⟨j, rfl⟩ : ∃ j', j = j' + 1 := ⟨j - 1, by omega⟩
    cases rest with
    | nil => exact ⟨.fz (.tuple (intsD a)), s6, by simp [mWhile, W1_steady_plan, cmdsD, steadyRun, splitC]⟩
    | cons x xs =>
      obtain ⟨c, A, B, e1, e2, e3, e4, e5, e6⟩ := next_split hs hk ht (by simp)
      unfold steadyRun
      rw [e1]
      have hlen : (A ++ c :: B).length = (A ++ B).length + 1 := by simp only [List.length_append, List.length_cons]; omega
      rw [e2] at hl hj hF hs ⊢
      have st := steady_turn first second g a A B F c ha hs (by omega) (by omega) e3 e4 s6
      obtain ⟨t5, t6, e7⟩ := ih j (afterZ a c) (A ++ B) (F ++ [c]) (.fz c.d) (by rw [afterZ_len]; exact ha) e5 e3 e6 (by omega) (by omega) (by simp only [List.length_append, List.length_cons, List.length_nil] at hF ⊢; omega)
      refine ⟨t5, t6, ?_⟩
      have w : W1_steady_plan [.fz first, .fz second, .fz (.int g), .ow (.list (cmdsD (A ++ c :: B))), .ow (.list (cmdsD F)), .fz (.tuple (intsD a)), s6, .un] = .ok true [.fz first, .fz second, .fz (.int g), .ow (.list (cmdsD (A ++ c :: B))), .ow (.list (cmdsD F)), .fz (.tuple (intsD a)), s6, .un] := by
        simp [W1_steady_plan, cmdsD]
      simp only [mWhile]
      rw [w]
      simp only [Res.toS_ok, if_true]
      rw [st]
      dsimp only
      rw [e7]
      simp
theorem plan_len_le (m : List Int) : (planZ m).length ≤ m.length := by
  have s := plan_safe m
  have : ((planZ m).map fun c => c.p.toNat).Nodup := by
    have h := s.nd
    have e : (planZ m).map (fun c => c.p.toNat) = ((planZ m).map (·.p)).map Int.toNat := by simp
    rw [e]
    refine List.pairwise_map.mpr (List.Pairwise.imp_of_mem (fun {x y} hx hy hne hxy => hne ?_) h)
    obtain ⟨c, hc, rfl⟩ := List.mem_map.mp hx
    obtain ⟨d, hd, rfl⟩ := List.mem_map.mp hy
    have := (s.at_ c hc).1
    have := (s.at_ d hd).1
    omega
  have := nodup_len (n := m.length) this (by
    intro k hk
    obtain ⟨c, hc, rfl⟩ := List.mem_map.mp hk
    have := s.at_ c hc
    omega)
  simpa using this
/-- the run of a plan that keeps a gap -/
def steadyZ (g : Int) (a b : List Int) : List Cmd := steadyRun g 60 a (planZ (shiftsZ a b))
theorem moved_shifts {a b : List Int} (hl : b.length = a.length) : movedZ a (shiftsZ a b) = b := by
  have sl : (shiftsZ a b).length = a.length := by rw [shiftsZ_len]; omega
  apply ext_getD
  · rw [moved_len _ _ sl]; omega
  · intro i hi
    rw [moved_len _ _ sl] at hi
    have z : (a.zip (shiftsZ a b))[i]? = some (a.getD i 0, (shiftsZ a b).getD i 0) := by
      rw [List.getElem?_eq_getElem (by simp; omega)]
      simp [List.getD, List.getElem?_eq_getElem hi, List.getElem?_eq_getElem (show i < (shiftsZ a b).length by omega)]
    have := shifts_get hl hi
    simp only [movedZ, List.getD, List.getElem?_map, z, Option.map_some, Option.getD_some] at this ⊢
    omega
theorem steady_ok (a b : List Int) (g : Int) (h : GoodT a) (k : GoodT b) (hl : b.length = a.length) (h0 : 0 ≤ g) (h1 : g ≤ 1000000000000) (ka : keepsZ a g = true) (kb : keepsZ b g = true) :
    F_steady_plan [] [.tuple (intsD a), .tuple (intsD b), .int g] = .ok (.tuple (cmdsD (steadyZ g a b))) [] ∧ RunOk g a (steadyZ g a b) ∧ (steadyZ g a b).Perm (planZ (shiftsZ a b)) ∧ lastZ a (steadyZ g a b) = b := by
  have ha := h.2.1
  have sl : (shiftsZ a b).length = a.length := by rw [shiftsZ_len]; omega
  have sf := plan_safe (shiftsZ a b)
  rw [sl] at sf
  have ll : lastZ a (planZ (shiftsZ a b)) = b := by rw [plan_leads a _ sl, moved_shifts hl]
  have pl := plan_len_le (shiftsZ a b)
  have kl : keepsZ (lastZ a (planZ (shiftsZ a b))) g = true := by rw [ll]; exact kb
  obtain ⟨r1, r2⟩ := run_all 60 a _ sf ka kl (by omega)
  refine ⟨?_, r1, r2, by rw [steadyZ, last_perm a r2, ll]⟩
  obtain ⟨t5, t6, e⟩ := steady_loop (.tuple (intsD a)) (.tuple (intsD b)) g 60 100 a (planZ (shiftsZ a b)) [] .un (by omega) sf ka kl (by omega) (by omega) (by simp; omega)
  rw [List.nil_append] at e
  have e : mWhile W1_steady_plan L1_steady_plan 100 [.fz (.tuple (intsD a)), .fz (.tuple (intsD b)), .fz (.int g), .ow (.list (cmdsD (planZ (shiftsZ a b)))), .ow (.list []), .fz (.tuple (intsD a)), .un, .un] = _ := e
  unfold steadyZ
  simp only [F_steady_plan, M_steady_plan, e_runF, e_startR, e_mSeq]
  simp [require_rows_ok a b h k hl, require_gap_ok g h0 h1, keeps_ok a g (by omega), keeps_ok b g (by have := k.2.1; omega), ka, kb, shifts_of_ok a b (by omega), script_for_ok (shiftsZ a b) (by omega), e]
theorem steady_not (a b : List Int) (g : Int) (h : GoodT a) (k : GoodT b) (hl : b.length = a.length) (h0 : 0 ≤ g) (h1 : g ≤ 1000000000000) (hn : keepsZ a g = false ∨ keepsZ b g = false) :
    F_steady_plan [] [.tuple (intsD a), .tuple (intsD b), .int g] = .ex "NotSteady" [] := by
  have ha := h.2.1
  have hb := k.2.1
  by_cases q : keepsZ a g = true
  · have q2 : keepsZ b g = false := by
      rcases hn with z | z
      · rw [q] at z; cases z
      · exact z
    simp [F_steady_plan, M_steady_plan, require_rows_ok a b h k hl, require_gap_ok g h0 h1, keeps_ok a g (by omega), keeps_ok b g (by omega), q, q2]
  · have q2 : keepsZ a g = false := by simpa using q
    simp [F_steady_plan, M_steady_plan, require_rows_ok a b h k hl, require_gap_ok g h0 h1, keeps_ok a g (by omega), keeps_ok b g (by omega), q2]
end Cap
set_option Elab.async false
set_option linter.all false
set_option maxRecDepth 100000
set_option maxHeartbeats 4000000
namespace Cap
open PySem PySem.Spec L2 Mi
theorem law_steady_ok (d : D) (a : List Int) (g : Int) (hd : d = .tuple (intsD a) ∨ d = .list (intsD a)) (hl : a.length ≤ 900000) : F__law_steady [] [d, .int g] = .ok (.bool (keepsZ a g)) [] := by
  have e := lcL_2f (v := 2) (w := 3) (ft := T1__law_steady) (fe := C1__law_steady) (ρ := [.fz d, .fz (.int g), .un, .un]) (by omega) rfl rfl (fun p : Int × Int => .int p.1) (fun p => .int p.2) (fun _ => .int 1) (fun p => decide (p.2 - p.1 < g)) (a.zip a.tail) (by
    intro x _; simp [T1__law_steady]) (by intro x _ _; simp [C1__law_steady])
  have hz : a.length ≤ 1000001 := by omega
  have e3 : ((a.zip a.tail).filter fun p => decide (p.2 - p.1 < g)).map (fun _ => PyData.int 1) = intsD (((a.zip a.tail).filter fun p => decide (p.2 - p.1 < g)).map fun _ => 1) := by simp [intsD]
  rw [e3] at e
  have k : (((a.zip a.tail).filter fun p => decide (p.2 - p.1 < g)).map fun _ => (1 : Int)) = [] ↔ keepsZ a g = true := by
    unfold keepsZ
    rw [List.map_eq_nil_iff, List.filter_eq_nil_iff, List.all_eq_true]
    constructor
    · intro h x hx; have := h x hx; simp at this ⊢; omega
    · intro h x hx; have := h x hx; simp at this ⊢; omega
  have en := eq_ints (((a.zip a.tail).filter fun p => decide (p.2 - p.1 < g)).map fun _ => (1 : Int)) []
  rw [intsD_nil] at en
  rw [show decide ((((a.zip a.tail).filter fun p => decide (p.2 - p.1 < g)).map fun _ => (1 : Int)) = []) = keepsZ a g by
    by_cases q : keepsZ a g = true
    · rw [q, decide_eq_true (k.mpr q)]
    · have q2 : keepsZ a g = false := by simpa using q
      rw [q2, decide_eq_false (fun z => q (k.mp z))]] at en
  rcases hd with rfl | rfl
  · simp [F__law_steady, M__law_steady, cut_one, zipD_ints, e, hz, en]
  · simp [F__law_steady, M__law_steady, cut_one, zipD_ints, e, hz, en]
theorem keeps_snoc {xs : List Int} {x y g : Int} (h : keepsZ (xs ++ [x]) g = true) (hy : g ≤ y - x) : keepsZ (xs ++ [x] ++ [y]) g = true := by
  rw [keeps_iff] at h ⊢
  intro i hi
  simp only [List.length_append, List.length_cons, List.length_nil] at hi h
  by_cases q : i + 1 < xs.length + 1
  · have := h i (by omega)
    rw [getD_app_left (by simp; omega), getD_app_left (p := xs ++ [x]) (by simp; omega)]
    exact this
  · have e : i = xs.length := by omega
    subst e
    have e1 : (xs ++ [x] ++ [y]).getD (xs.length + 1) 0 = y := by simp [List.getD]
    have e2 : (xs ++ [x] ++ [y]).getD xs.length 0 = x := by simp [List.getD]
    rw [e1, e2]; exact hy
theorem row_loop (len : Slot) (g w : Int) (hg0 : 0 ≤ g) (hg : g ≤ 100) (hw : 0 < w) (hw2 : w ≤ 100) : ∀ (ds : List D) {b : D} (hb : IsBag b) (xs : List Int) (x : Int) (s5 : Slot), xs.length + ds.length ≤ 1000 → keepsZ (xs ++ [x]) g = true → In (-(200 * (xs.length : Int) + 200)) (200 * (xs.length : Int) + 200) (xs ++ [x]) →
    ∃ b' zs z t5, forL (.name 5) L1__law_row ds [.ow b, len, .fz (.int g), .fz (.int w), .ow (.list (intsD (xs ++ [x]))), s5] = .nx [.ow b', len, .fz (.int g), .fz (.int w), .ow (.list (intsD (zs ++ [z]))), t5] ∧ IsBag b' ∧ zs.length = xs.length + ds.length ∧ keepsZ (zs ++ [z]) g = true ∧ In (-(200 * (zs.length : Int) + 200)) (200 * (zs.length : Int) + 200) (zs ++ [z])
  | [], b, hb, xs, x, s5, _, hk, hi => ⟨b, xs, x, s5, rfl, hb, rfl, hk, hi⟩
  | d :: ds, b, hb, xs, x, s5, hl, hk, hi => by
    obtain ⟨r, b1, e1, hb1, r0, r1⟩ := take_ok hb w hw (by omega)
    have hx := hi x (by simp)
    obtain ⟨b2, zs, z, t5, e2, hb2, z1, z2, z3⟩ := row_loop len g w hg0 hg hw hw2 ds hb1 (xs ++ [x]) (x + g + r) (.fz d) (by simp at hl ⊢; omega) (keeps_snoc hk (by omega)) (by
      intro y hy
      rcases List.mem_append.mp hy with q | q
      · have := hi y q
        simp only [List.length_append, List.length_cons, List.length_nil]
        omega
      · have : y = x + g + r := by simpa using q
        simp only [List.length_append, List.length_cons, List.length_nil]
        omega)
    refine ⟨b2, zs, z, t5, ?_, hb2, by simp at z1 ⊢; omega, z2, z3⟩
    have al : atI (intsD (xs ++ [x])) (-1) = some (.int x) := atI_last (by simp [intsD])
    have l1 : (intsD (xs ++ [x])).length < 1000000 := by simp at hl ⊢; omega
    have st : L1__law_row [.ow b, len, .fz (.int g), .fz (.int w), .ow (.list (intsD (xs ++ [x]))), .fz d] = .nx [.ow b1, len, .fz (.int g), .fz (.int w), .ow (.list (intsD (xs ++ [x] ++ [x + g + r]))), .fz d] := by
      have z : intsD (xs ++ [x] ++ [x + g + r]) = intsD (xs ++ [x]) ++ [.int (x + g + r)] := by rw [intsD_app]; rfl
      rw [z]
      generalize intsD (xs ++ [x]) = Q at *
      simp [L1__law_row, al, e1, l1]
    simp only [forL, e_putNm, List.set_cons_succ, List.set_cons_zero]
    rw [st]
    exact e2
theorem law_row_ok {b : D} (hb : IsBag b) (n g w : Int) (h1 : 1 ≤ n) (h2 : n ≤ 30) (hg0 : 0 ≤ g) (hg : g ≤ 100) (hw : 0 < w) (hw2 : w ≤ 100) :
    ∃ (xs : List Int) (b' : D), F__law_row [b] [.int n, .int g, .int w] = .ok (.tuple (intsD xs)) [b'] ∧ IsBag b' ∧ (xs.length : Int) = n ∧ keepsZ xs g = true ∧ In (-10000) 10000 xs := by
  obtain ⟨r, b1, e1, hb1, r0, r1⟩ := take_ok hb (2 * w + 1) (by omega) (by omega)
  obtain ⟨b2, zs, z, t5, e2, hb2, z1, z2, z3⟩ := row_loop (.fz (.int n)) g w hg0 hg hw hw2 (rngD 0 (n - 1).toNat) hb1 [] (r - w) .un (by rw [rngD_len]; simp; omega) (by rfl) (by
    intro y hy
    have : y = r - w := by simpa using hy
    simp
    omega)
  rw [rngD_len] at z1
  refine ⟨zs ++ [z], b2, ?_, hb2, by simp at z1 ⊢; omega, z2, fun y hy => by have := z3 y hy; simp at z1; omega⟩
  have r2 : rng1 [.int (n - 1)] = some (rngD 0 (n - 1).toNat) := by
    rw [e_rng1, if_pos (by omega)]
  rw [List.nil_append] at e2
  have e2 : forL (.name 5) L1__law_row (rngD 0 (n - 1).toNat) [.ow b1, .fz (.int n), .fz (.int g), .fz (.int w), .ow (.list [.int (r - w)]), .un] = _ := e2
  have mw : mulA (.int 2) (.int w) = some (.int (2 * w)) := e_mul _ _ (by omega)
  generalize rngD 0 (n - 1).toNat = R at *
  simp only [F__law_row, M__law_row, e_runF, e_startR, e_mSeq]
  simp [mw, e1, r2, e2, -e_rng1]
theorem near_loop (g step : Slot) (s1 s4 s6 s7 : Slot) (v : Int) (b : D) (row : List Int) (p : Nat) : ∀ (k e : Nat) (s9 : Slot), p ≤ e → e + k ≤ row.length → ∃ t9,
    forL (.name 9) L1__law_near ((List.range' e k).map fun i => .int (i : Nat)) [.ow b, s1, g, .ow (.list (intsD (updZ row p e v))), s4, .fz (.int p), s6, s7, .fz (.int v), s9] =
      .nx [.ow b, s1, g, .ow (.list (intsD (updZ row p (e + k) v))), s4, .fz (.int p), s6, s7, .fz (.int v), t9]
  | 0, e, s9, _, _ => ⟨s9, rfl⟩
  | k + 1, e, s9, h1, h2 => by
    obtain ⟨t9, q⟩ := near_loop g step s1 s4 s6 s7 v b row p k (e + 1) (.fz (.int e)) (by omega) (by omega)
    refine ⟨t9, ?_⟩
    rw [List.range'_succ, List.map_cons]
    simp only [forL, e_putNm, List.set_cons_succ, List.set_cons_zero]
    have he : e < row.length := by omega
    have a1 := atI_ints (xs := updZ row p e v) (i := e) (by rw [updZ_len]; exact he)
    rw [updZ_get he, if_neg (by omega)] at a1
    have a2 : ixN (intsD (updZ row p e v)).length (e : Int) = some e := ixN_nat (by rw [intsD_len, updZ_len]; exact he)
    have st : L1__law_near [.ow b, s1, g, .ow (.list (intsD (updZ row p e v))), s4, .fz (.int p), s6, s7, .fz (.int v), .fz (.int e)] = .nx [.ow b, s1, g, .ow (.list (intsD (updZ row p (e + 1) v))), s4, .fz (.int p), s6, s7, .fz (.int v), .fz (.int e)] := by
      rw [← updZ_set row p e v h1 he, ← intsD_set]
      generalize intsD (updZ row p e v) = Q at *
      simp [L1__law_near, a1, a2, -List.getD_eq_getElem?_getD]
    rw [show e + (k + 1) = e + 1 + k by omega, st]
    exact q
theorem upd_in {M K : Int} {row : List Int} {p e : Nat} {v : Int} (h : In (-M) M row) (hv : -K ≤ v ∧ v ≤ K) : In (-(M + K)) (M + K) (updZ row p e v) := by
  intro x hx
  simp only [updZ, List.mem_map, List.mem_range] at hx
  obtain ⟨i, hi, rfl⟩ := hx
  have h2 := h (row.getD i 0) (by rw [List.getD, List.getElem?_eq_getElem hi]; simp)
  split <;> omega
theorem getD_in {M : Int} {row : List Int} (h : In (-M) M row) {i : Nat} (hi : i < row.length) : -M ≤ row.getD i 0 ∧ row.getD i 0 ≤ M := h _ (by rw [List.getD, List.getElem?_eq_getElem hi]; simp)
theorem near_turn {b : D} (hb : IsBag b) (s1 s4 s5 s6 s7 s8 s9 : Slot) (g M : Int) (hg0 : 0 ≤ g) (hg : g ≤ 100) (hM : 100 ≤ M) (hM2 : M ≤ 100000000000) (row : List Int) (h1 : 1 ≤ row.length) (h2 : row.length ≤ 30) (hk : keepsZ row g = true) (hi : In (-M) M row) :
    ∃ b' row' t5 t6 t7 t8 t9, L2__law_near [.ow b, s1, .fz (.int g), .ow (.list (intsD row)), s4, s5, s6, s7, s8, s9] = .nx [.ow b', s1, .fz (.int g), .ow (.list (intsD row')), s4, t5, t6, t7, t8, t9] ∧ IsBag b' ∧ row'.length = row.length ∧ keepsZ row' g = true ∧ In (-(4 * M)) (4 * M) row' := by
  obtain ⟨p', b1, e1, hb1, p0, p1⟩ := take_ok hb row.length (by omega) (by omega)
  obtain ⟨p, rfl⟩ := Int.eq_ofNat_of_zero_le p0
  have hp : p < row.length := by omega
  have kk := (keeps_iff row g).mp hk
  -- low
  obtain ⟨low, el, l0, l1, l2⟩ : ∃ low : Int, (if 0 < p then row.getD p 0 - row.getD (p - 1) 0 - g else 9) = low ∧ 0 ≤ low ∧ low ≤ 2 * M ∧ (0 < p → low = row.getD p 0 - row.getD (p - 1) 0 - g) := by
    by_cases q : 0 < p
    · have k1 := kk (p - 1) (by omega)
      rw [show p - 1 + 1 = p by omega] at k1
      have b1 := getD_in hi hp
      have b2 := getD_in hi (i := p - 1) (by omega)
      exact ⟨_, if_pos q, by omega, by omega, fun _ => rfl⟩
    · exact ⟨9, if_neg q, by omega, by omega, fun z => absurd z q⟩
  obtain ⟨room, er, m0, m1, m2⟩ : ∃ room : Int, (if p + 1 < row.length then row.getD (p + 1) 0 - row.getD p 0 - g else 9) = room ∧ 0 ≤ room ∧ room ≤ 2 * M ∧ (p + 1 < row.length → room = row.getD (p + 1) 0 - row.getD p 0 - g) := by
    by_cases q : p + 1 < row.length
    · have k1 := kk p q
      have b1 := getD_in hi hp
      have b2 := getD_in hi q
      exact ⟨_, if_pos q, by omega, by omega, fun _ => rfl⟩
    · exact ⟨9, if_neg q, by omega, by omega, fun z => absurd z q⟩
  obtain ⟨w, b2, e2, hb2, w0, w1⟩ := take_ok hb1 2 (by omega) (by omega)
  have a1 := atI_ints (xs := row) hp
  have f6 : mIf (mTest (mBin gtD (mVar 5) (mC (.int 0)))) (mBin subD (mBin subD (mOwnL ixD 3 (mVar 5)) (mOwnL ixD 3 (mBin subD (mVar 5) (mC (.int 1))))) (mVar 2)) (mC (.int 9)) [.ow b1, s1, .fz (.int g), .ow (.list (intsD row)), s4, .fz (.int p), s6, s7, s8, s9] = .ok (.int low) [.ow b1, s1, .fz (.int g), .ow (.list (intsD row)), s4, .fz (.int p), s6, s7, s8, s9] := by
    rw [← el]
    by_cases q : 0 < p
    · have a2 := atI_ints (xs := row) (i := p - 1) (by omega)
      rw [show ((p - 1 : Nat) : Int) = (p : Int) - 1 by omega] at a2
      simp [a1, a2, q, -List.getD_eq_getElem?_getD]
    · simp [q]
  have f7 : mIf (mTest (mBin ltD (mBin addD (mVar 5) (mC (.int 1))) (mOwn1 len1 3))) (mBin subD (mBin subD (mOwnL ixD 3 (mBin addD (mVar 5) (mC (.int 1)))) (mOwnL ixD 3 (mVar 5))) (mVar 2)) (mC (.int 9)) [.ow b1, s1, .fz (.int g), .ow (.list (intsD row)), s4, .fz (.int p), .fz (.int low), s7, s8, s9] = .ok (.int room) [.ow b1, s1, .fz (.int g), .ow (.list (intsD row)), s4, .fz (.int p), .fz (.int low), s7, s8, s9] := by
    rw [← er]
    by_cases q : p + 1 < row.length
    · have a2 := atI_ints (xs := row) (i := p + 1) q
      rw [show ((p + 1 : Nat) : Int) = (p : Int) + 1 by omega] at a2
      have q2 : (p : Int) + 1 < row.length := by omega
      simp [a1, a2, q, q2, -List.getD_eq_getElem?_getD]
    · have q2 : ¬ (p : Int) + 1 < row.length := by omega
      simp [q, q2]
  by_cases hw : w = 0
  · obtain ⟨z, b3, e3, hb3, z0, z1⟩ := take_ok hb2 (low + room + 1) (by omega) (by omega)
    have up : updZ row p (p + 1) (z - low) = row.set p (row.getD p 0 + (z - low)) := by
      have := updZ_set row p p (z - low) (Nat.le_refl _) hp
      rw [updZ_none] at this
      exact this.symm
    have af : updZ row p (p + 1) (z - low) = afterZ row ⟨true, p, z - low⟩ := rfl
    refine ⟨b3, updZ row p (p + 1) (z - low), .fz (.int p), .fz (.int low), .fz (.int room), .fz (.int (z - low)), s9, ?_, hb3, updZ_len _ _ _ _, ?_, ?_⟩
    · have a2 : ixN (intsD row).length (p : Int) = some p := ixN_nat (by rw [intsD_len]; exact hp)
      have se : (intsD row).set p (.int (row.getD p 0 + (z - low))) = intsD (updZ row p (p + 1) (z - low)) := by rw [up, intsD_set]
      have ll : (intsD row).length = row.length := intsD_len _
      rw [← ll] at e1
      generalize intsD row = Q at *
      have e6 := congrArg (fun r => Res.toS r fun d ρ1 => SR.nx (ρ1.set 6 (.fz d))) f6
      have e7 := congrArg (fun r => Res.toS r fun d ρ1 => SR.nx (ρ1.set 7 (.fz d))) f7
      simp only [Res.toS_ok, List.set_cons_succ, List.set_cons_zero] at e6 e7
      rw [← e_mSetP] at e6 e7
      have e5 : mSet .pure 5 (mArgs [0] (mCons (mOwn1 len1 3) mNil) F__law_take) [.ow b, s1, .fz (.int g), .ow (.list Q), s4, s5, s6, s7, s8, s9] = .nx [.ow b1, s1, .fz (.int g), .ow (.list Q), s4, .fz (.int p), s6, s7, s8, s9] := by simp [e1]
      simp only [L2__law_near, e_mSeq]
      rw [e5]
      dsimp only
      rw [e6]
      dsimp only
      rw [e7]
      dsimp only
      simp [e2, hw, e3, a1, a2, se, -List.getD_eq_getElem?_getD]
    · rw [keeps_iff]
      intro i hi
      rw [updZ_len] at hi
      rw [af, after_dist (by show (0 : Int) ≤ p; omega) hi]
      have := kk i hi
      unfold dl
      dsimp only
      by_cases q1 : (p : Int) = (i : Int) + 1
      · have : p = i + 1 := by omega
        subst this
        have := l2 (by omega)
        rw [if_pos q1, if_neg (by omega)]
        simp only [Nat.add_sub_cancel] at this
        omega
      · by_cases q2 : (p : Int) = (i : Int)
        · have : p = i := by omega
          subst this
          have := m2 hi
          rw [if_neg q1, if_pos ⟨rfl, q2⟩]
          omega
        · rw [if_neg q1, if_neg (fun z => q2 z.2)]
          omega
    · intro x hx
      have := upd_in (K := 2 * M + 9) hi (by omega : -(2 * M + 9) ≤ z - low ∧ z - low ≤ 2 * M + 9) x hx
      omega
  · obtain ⟨z, b3, e3, hb3, z0, z1⟩ := take_ok hb2 (low + 5) (by omega) (by omega)
    have af : updZ row p row.length (z - low) = afterZ row ⟨false, p, z - low⟩ := rfl
    obtain ⟨t9, e4⟩ := near_loop (.fz (.int g)) .un s1 s4 (.fz (.int low)) (.fz (.int room)) (z - low) b3 row p (row.length - p) p s9 (by omega) (by omega)
    rw [updZ_none, show p + (row.length - p) = row.length by omega] at e4
    have r2 : rng2 [.int p, .int row.length] = some ((List.range' p (row.length - p)).map fun i => .int (i : Nat)) := by
      rw [e_rng2, if_pos (by omega), ← rngD_nat]
      congr 2
      omega
    refine ⟨b3, updZ row p row.length (z - low), .fz (.int p), .fz (.int low), .fz (.int room), .fz (.int (z - low)), t9, ?_, hb3, updZ_len _ _ _ _, ?_, ?_⟩
    · have ll : (intsD row).length = row.length := intsD_len _
      rw [← ll] at e1
      generalize intsD row = Q at *
      have e6 := congrArg (fun r => Res.toS r fun d ρ1 => SR.nx (ρ1.set 6 (.fz d))) f6
      have e7 := congrArg (fun r => Res.toS r fun d ρ1 => SR.nx (ρ1.set 7 (.fz d))) f7
      simp only [Res.toS_ok, List.set_cons_succ, List.set_cons_zero] at e6 e7
      rw [← e_mSetP] at e6 e7
      have e5 : mSet .pure 5 (mArgs [0] (mCons (mOwn1 len1 3) mNil) F__law_take) [.ow b, s1, .fz (.int g), .ow (.list Q), s4, s5, s6, s7, s8, s9] = .nx [.ow b1, s1, .fz (.int g), .ow (.list Q), s4, .fz (.int p), s6, s7, s8, s9] := by simp [e1]
      simp only [L2__law_near, e_mSeq]
      rw [e5]
      dsimp only
      rw [e6]
      dsimp only
      rw [e7]
      dsimp only
      simp [e2, hw, e3, r2, e4, ll, -e_rng2, -List.getD_eq_getElem?_getD]
    · rw [keeps_iff]
      intro i hi
      rw [updZ_len] at hi
      rw [af, after_dist (by show (0 : Int) ≤ p; omega) hi]
      have := kk i hi
      unfold dl
      dsimp only
      by_cases q1 : (p : Int) = (i : Int) + 1
      · have : p = i + 1 := by omega
        subst this
        have := l2 (by omega)
        rw [if_pos q1, if_neg (fun z => by have := z.1; simp at this)]
        simp only [Nat.add_sub_cancel] at this
        omega
      · rw [if_neg q1, if_neg (fun z => by have := z.1; simp at this)]
        omega
    · intro x hx
      have := upd_in (K := 2 * M + 9) hi (by omega : -(2 * M + 9) ≤ z - low ∧ z - low ≤ 2 * M + 9) x hx
      omega
theorem near_rows (s1 : Slot) (g : Int) (hg0 : 0 ≤ g) (hg : g ≤ 100) : ∀ (ds : List D) {b : D} (hb : IsBag b) (row : List Int) (M : Int) (s4 s5 s6 s7 s8 s9 : Slot), 100 ≤ M → M * 4 ^ ds.length ≤ 100000000000 → 1 ≤ row.length → row.length ≤ 30 → keepsZ row g = true → In (-M) M row →
    ∃ b' row' t4 t5 t6 t7 t8 t9, forL (.name 4) L2__law_near ds [.ow b, s1, .fz (.int g), .ow (.list (intsD row)), s4, s5, s6, s7, s8, s9] = .nx [.ow b', s1, .fz (.int g), .ow (.list (intsD row')), t4, t5, t6, t7, t8, t9] ∧ IsBag b' ∧ row'.length = row.length ∧ keepsZ row' g = true ∧ In (-100000000000) 100000000000 row'
  | [], b, hb, row, M, s4, s5, s6, s7, s8, s9, hM, hM2, h1, h2, hk, hi => ⟨b, row, s4, s5, s6, s7, s8, s9, rfl, hb, rfl, hk, fun x hx => by have := hi x hx; simp at hM2; omega⟩
  | d :: ds, b, hb, row, M, s4, s5, s6, s7, s8, s9, hM, hM2, h1, h2, hk, hi => by
    have hp : (1 : Int) ≤ 4 ^ ds.length := by
      have : (0 : Int) < 4 ^ ds.length := Int.pow_pos (by omega)
      omega
    have hM3 : 4 * M * 4 ^ ds.length ≤ 100000000000 := by
      rw [List.length_cons, Int.pow_succ] at hM2
      rw [Int.mul_comm 4 M, Int.mul_assoc, Int.mul_comm 4]
      exact hM2
    have hM4 : M ≤ 100000000000 := by
      have : 4 * M * 1 ≤ 4 * M * 4 ^ ds.length := Int.mul_le_mul_of_nonneg_left hp (by omega)
      omega
    obtain ⟨b1, row1, t5, t6, t7, t8, t9, e1, hb1, r1, r2, r3⟩ := near_turn hb s1 (.fz d) s5 s6 s7 s8 s9 g M hg0 hg hM hM4 row h1 h2 hk hi
    obtain ⟨b2, row2, u4, u5, u6, u7, u8, u9, e2, hb2, q1, q2, q3⟩ := near_rows s1 g hg0 hg ds hb1 row1 (4 * M) (.fz d) t5 t6 t7 t8 t9 (by omega) hM3 (by omega) (by omega) r2 r3
    refine ⟨b2, row2, u4, u5, u6, u7, u8, u9, ?_, hb2, by omega, q2, q3⟩
    simp only [forL, e_putNm, List.set_cons_succ, List.set_cons_zero]
    rw [e1]
    exact e2
theorem law_near_ok {b : D} (hb : IsBag b) (g : Int) (hg0 : 0 ≤ g) (hg : g ≤ 100) (row : List Int) (h1 : 1 ≤ row.length) (h2 : row.length ≤ 30) (hk : keepsZ row g = true) (hi : In (-10000) 10000 row) :
    ∃ (xs : List Int) (b' : D), F__law_near [b] [.tuple (intsD row), .int g] = .ok (.tuple (intsD xs)) [b'] ∧ IsBag b' ∧ xs.length = row.length ∧ keepsZ xs g = true ∧ In (-100000000000) 100000000000 xs := by
  obtain ⟨r, b1, e1, hb1, r0, r1⟩ := take_ok hb 12 (by omega) (by omega)
  obtain ⟨b2, row2, u4, u5, u6, u7, u8, u9, e2, hb2, q1, q2, q3⟩ := near_rows (.fz (.tuple (intsD row))) g hg0 hg (rngD 0 r.toNat) hb1 row 10000 .un .un .un .un .un .un (by omega) (by
    rw [rngD_len]
    have q := Nat.pow_le_pow_right (show 0 < 4 by omega) (show r.toNat ≤ 11 by omega)
    have q2 : ((4 ^ r.toNat : Nat) : Int) ≤ ((4 ^ 11 : Nat) : Int) := by omega
    rw [Int.natCast_pow] at q2
    have : ((4 ^ 11 : Nat) : Int) = 4194304 := rfl
    have : ((4 : Nat) : Int) ^ r.toNat = (4 : Int) ^ r.toNat := rfl
    omega) h1 h2 hk hi
  refine ⟨row2, b2, ?_, hb2, q1, q2, q3⟩
  have r2 : rng1 [.int r] = some (rngD 0 r.toNat) := by
    rw [e_rng1, if_pos (by omega)]
  have l2 : row.length ≤ 1000000 := by omega
  simp only [F__law_near, M__law_near, e_runF, e_startR, e_mSeq]
  simp [e1, r2, e2, l2, -e_rng1]
end Cap
set_option Elab.async false
set_option linter.all false
set_option maxRecDepth 100000
set_option maxHeartbeats 2000000
namespace Cap
open PySem PySem.Spec L2 Mi
abbrev LPart := Nat × Nat × Bool
/-- the start of the part that holds the place q -/
def st (L : Nat → Bool) : Nat → Nat
  | 0 => 0
  | q + 1 => if L q then st L q else q + 1
theorem st_le (L : Nat → Bool) : ∀ q, st L q ≤ q
  | 0 => Nat.le_refl _
  | q + 1 => by
    unfold st
    split
    · have := st_le L q; omega
    · omega
theorem st_mid {L : Nat → Bool} : ∀ {e s q : Nat}, st L e = s → s ≤ q → q ≤ e → st L q = s
  | 0, s, q, h, h1, h2 => by
    have : q = 0 := by omega
    subst this; exact h
  | e + 1, s, q, h, h1, h2 => by
    by_cases hq : q = e + 1
    · subst hq; exact h
    · unfold st at h
      split at h
      · exact st_mid h h1 (by omega)
      · omega
theorem st_st (L : Nat → Bool) (q : Nat) : st L (st L q) = st L q := st_mid rfl (Nat.le_refl _) (st_le L q)
theorem st_link {L : Nat → Bool} {e s q : Nat} (h : st L e = s) (h1 : s ≤ q) (h2 : q < e) : L q = true := by
  have a := st_mid h (q := q + 1) (by omega) (by omega)
  unfold st at a
  split at a
  · assumption
  · omega
def linkedZ (L O : Nat → Bool) : Nat → List LPart
  | 0 => []
  | k + 1 => if 0 < k ∧ L (k - 1) = true then (match (linkedZ L O k).getLast? with
      | some p => (linkedZ L O k).dropLast ++ [(p.1, k, p.2.2 || O k)]
      | none => [])
    else if (L k || O k) = true then linkedZ L O k ++ [(k, k, O k)] else linkedZ L O k
def block (L : Nat → Bool) (k m : Nat) : List Nat := (List.range k).filter fun q => decide (st L q = m)
def partOf (L O : Nat → Bool) (k m : Nat) : LPart := (m, (block L k m).getLast?.getD 0, (block L k m).any O)
def startsOf (L O : Nat → Bool) (k : Nat) : List Nat := (List.range k).filter fun m => decide (st L m = m) && (L m || O m)
theorem block_succ (L : Nat → Bool) (k m : Nat) : block L (k + 1) m = if st L k = m then block L k m ++ [k] else block L k m := by
  unfold block
  rw [List.range_succ, List.filter_append]
  by_cases h : st L k = m
  · rw [if_pos h]; simp [h]
  · rw [if_neg h]; simp [h]
theorem starts_succ (L O : Nat → Bool) (k : Nat) : startsOf L O (k + 1) = if st L k = k ∧ (L k || O k) = true then startsOf L O k ++ [k] else startsOf L O k := by
  unfold startsOf
  rw [List.range_succ, List.filter_append]
  by_cases h : st L k = k ∧ (L k || O k) = true
  · rw [if_pos h, List.filter_cons_of_pos (by simp only [h.1, decide_true, h.2, Bool.and_self])]; rfl
  · rw [if_neg h, List.filter_cons_of_neg (by
      simp only [Bool.and_eq_true, decide_eq_true_eq]; exact h)]
    simp
theorem mem_starts {L O : Nat → Bool} {k m : Nat} : m ∈ startsOf L O k ↔ m < k ∧ st L m = m ∧ (L m || O m) = true := by
  unfold startsOf
  simp only [List.mem_filter, List.mem_range, Bool.and_eq_true, decide_eq_true_eq]
theorem starts_asc (L O : Nat → Bool) (k : Nat) : (startsOf L O k).Pairwise (· < ·) := List.pairwise_lt_range.filter _
theorem mem_block {L : Nat → Bool} {k m q : Nat} : q ∈ block L k m ↔ q < k ∧ st L q = m := by
  simp [block]
/-- the last start is that of the place before -/
theorem starts_last {L O : Nat → Bool} {k : Nat} (h0 : 0 < k) (hL : L (k - 1) = true) : ∃ A, startsOf L O k = A ++ [st L (k - 1)] ∧ ∀ m ∈ A, m ≠ st L (k - 1) := by
  have hm : st L (k - 1) ∈ startsOf L O k := by
    rw [mem_starts]
    have := st_le L (k - 1)
    refine ⟨by omega, st_st L _, ?_⟩
    by_cases q : st L (k - 1) = k - 1
    · rw [q, hL]; rfl
    · rw [st_link (L := L) (e := k - 1) (q := st L (k - 1)) rfl (Nat.le_refl _) (by omega)]; rfl
  have asc := starts_asc L O k
  obtain ⟨A, B, e⟩ := List.append_of_mem hm
  have hB : B = [] := by
    cases B with
    | nil => rfl
    | cons b B =>
      rw [e] at asc
      have hb : b ∈ startsOf L O k := by rw [e]; simp
      obtain ⟨b1, b2, _⟩ := mem_starts.mp hb
      have lt : st L (k - 1) < b := (List.pairwise_cons.mp (List.pairwise_append.mp asc).2.1).1 b (by simp)
      have := st_mid (L := L) (e := k - 1) (q := b) rfl (by omega) (by omega)
      omega
  subst hB
  refine ⟨A, e, fun m hmA => ?_⟩
  rw [e] at asc
  have := (List.pairwise_append.mp asc).2.2 m hmA _ (List.mem_singleton.mpr rfl)
  omega
theorem linked_parts (L O : Nat → Bool) : ∀ k, linkedZ L O k = (startsOf L O k).map (partOf L O k)
  | 0 => rfl
  | k + 1 => by
    have ih := linked_parts L O k
    unfold linkedZ
    rw [starts_succ]
    by_cases h : 0 < k ∧ L (k - 1) = true
    · rw [if_pos h]
      have hk : st L k = st L (k - 1) := by
        obtain ⟨j, rfl⟩ : ∃ j, k = j + 1 := ⟨k - 1, by omega⟩
        rw [st, if_pos (by simpa using h.2)]
        rfl
      have lt := st_le L (k - 1)
      rw [if_neg (by omega)]
      obtain ⟨A, e, hA⟩ := starts_last (O := O) h.1 h.2
      rw [ih, e]
      simp only [List.map_append, List.map_cons, List.map_nil, List.getLast?_concat, List.dropLast_concat]
      congr 1
      · refine List.map_congr_left fun m hm => ?_
        unfold partOf
        rw [block_succ, if_neg (by rw [hk]; exact fun z => hA m hm z.symm)]
      · unfold partOf
        rw [block_succ, if_pos hk]
        simp
    · rw [if_neg h]
      have hk : st L k = k := by
        cases k with
        | zero => rfl
        | succ j =>
          rw [st, if_neg]
          intro z
          exact h ⟨by omega, by simpa using z⟩
      have keep : ∀ m ∈ startsOf L O k, partOf L O (k + 1) m = partOf L O k m := fun m hm => by
        have := (mem_starts.mp hm).1
        unfold partOf
        rw [block_succ, if_neg (by omega)]
      have km : (startsOf L O k).map (partOf L O k) = (startsOf L O k).map (partOf L O (k + 1)) := List.map_congr_left fun m hm => (keep m hm).symm
      by_cases q : (L k || O k) = true
      · rw [if_pos q, if_pos ⟨hk, q⟩, ih, km, List.map_append]
        congr 1
        have bl : block L (k + 1) k = [k] := by
          rw [block_succ, if_pos hk]
          have : block L k k = [] := by
            unfold block
            rw [List.filter_eq_nil_iff]
            intro x hx
            have := st_le L x
            have := List.mem_range.mp hx
            simp; omega
          rw [this]; rfl
        simp [partOf, bl]
      · rw [if_neg q, if_neg (fun z => q z.2), ih, km]
/-- the first place of a block is its start -/
theorem block_head {L : Nat → Bool} {k m : Nat} (hm : m < k) (hs : st L m = m) : ∃ r, block L k m = m :: r := by
  unfold block
  obtain ⟨d, rfl⟩ : ∃ d, k = m + (d + 1) := ⟨k - m - 1, by omega⟩
  rw [List.range_add, List.filter_append]
  have z : (List.range m).filter (fun q => decide (st L q = m)) = [] := by
    rw [List.filter_eq_nil_iff]
    intro x hx
    have := st_le L x
    have := List.mem_range.mp hx
    simp; omega
  rw [z, List.nil_append, List.range_succ_eq_map]
  exact ⟨_, by rw [List.map_cons, List.filter_cons_of_pos (by simpa using hs), Nat.add_zero]⟩
def neededZ (ps : List LPart) : Int := (ps.map fun p => ((p.2.1 : Int) - p.1) + if p.2.2 then 1 else 0).sum
theorem needed_app (a b : List LPart) : neededZ (a ++ b) = neededZ a + neededZ b := by simp [neededZ, List.sum_append_int]
theorem linked_end (L O : Nat → Bool) : ∀ k p, (linkedZ L O (k + 1)).getLast? = some p → (0 < k + 1 ∧ L k = true) → p.2.1 = k
  | k, p, h, hl => by
    unfold linkedZ at h
    split at h
    · cases q : (linkedZ L O k).getLast? with
      | none => rw [q] at h; cases h
      | some r =>
        rw [q] at h
        simp only [List.getLast?_concat, Option.some.injEq] at h
        subst h; rfl
    · rw [if_pos (by rw [hl.2]; rfl)] at h
      simp only [List.getLast?_concat, Option.some.injEq] at h
      subst h; rfl
theorem linked_some (L O : Nat → Bool) : ∀ k, L k = true → ∃ p, (linkedZ L O (k + 1)).getLast? = some p
  | k, hl => by
    unfold linkedZ
    split
    · rename_i h
      obtain ⟨j, rfl⟩ : ∃ j, k = j + 1 := ⟨k - 1, by omega⟩
      obtain ⟨p, hp⟩ := linked_some L O j (by simpa using h.2)
      rw [hp]
      exact ⟨_, List.getLast?_concat⟩
    · rw [if_pos (by rw [hl]; rfl)]
      exact ⟨_, List.getLast?_concat⟩
def b2n (b : Bool) : Int := if b then 1 else 0
theorem needed_step (L O : Nat → Bool) (k : Nat) : neededZ (linkedZ L O (k + 1)) ≤ neededZ (linkedZ L O k) + b2n (decide (0 < k) && L (k - 1)) + b2n (O k) ∧
    ((O k = true → L (k - 1) = false) → neededZ (linkedZ L O (k + 1)) = neededZ (linkedZ L O k) + b2n (decide (0 < k) && L (k - 1)) + b2n (O k)) := by
  rw [linkedZ]
  by_cases h : 0 < k ∧ L (k - 1) = true
  · rw [if_pos h]
    obtain ⟨j, rfl⟩ : ∃ j, k = j + 1 := ⟨k - 1, by omega⟩
    have hj : L j = true := by simpa using h.2
    obtain ⟨p, hp⟩ := linked_some L O j hj
    have he := linked_end L O j p hp ⟨by omega, hj⟩
    rw [hp]
    dsimp only
    have dl : linkedZ L O (j + 1) = (linkedZ L O (j + 1)).dropLast ++ [p] := by
      obtain ⟨hne, e⟩ := List.getLast?_eq_some_iff.mp hp
      rw [e, List.dropLast_concat]
    generalize (linkedZ L O (j + 1)).dropLast = A at *
    rw [dl, needed_app, needed_app]
    have e1 : (decide (0 < j + 1) && L (j + 1 - 1)) = true := by simp [hj]
    rw [e1]
    obtain ⟨s, e, o⟩ := p
    simp only at he
    rw [he]
    simp only [neededZ, List.map_cons, List.map_nil, List.sum_cons, List.sum_nil, b2n, if_true]
    constructor
    · cases o <;> cases O (j + 1) <;> simp <;> omega
    · intro hO
      have : O (j + 1) = false := by
        cases q : O (j + 1) with
        | false => rfl
        | true => have := hO q; simp [hj] at this
      rw [this]
      cases o <;> simp <;> omega
  · rw [if_neg h]
    have e1 : (decide (0 < k) && L (k - 1)) = false := by
      by_cases z : 0 < k
      · have : ¬ L (k - 1) = true := fun q => h ⟨z, q⟩
        simp [this]
      · simp [z]
    rw [e1]
    by_cases q : (L k || O k) = true
    · rw [if_pos q, needed_app]
      simp only [neededZ, List.map_cons, List.map_nil, List.sum_cons, List.sum_nil, b2n]
      cases O k <;> simp <;> omega
    · rw [if_neg q]
      have : O k = false := by
        cases z : O k with
        | false => rfl
        | true => rw [z] at q; simp at q
      rw [this]
      simp [b2n]
def cnt (P : Nat → Bool) (k : Nat) : Int := (((List.range k).filter P).length : Nat)
theorem cnt_succ (P : Nat → Bool) (k : Nat) : cnt P (k + 1) = cnt P k + b2n (P k) := by
  unfold cnt b2n
  rw [List.range_succ, List.filter_append, List.length_append]
  cases h : P k <;> simp [h]
theorem needed_le (L O : Nat → Bool) : ∀ k, neededZ (linkedZ L O k) ≤ cnt (fun q => decide (q + 1 < k) && L q) k + cnt O k ∧ ((∀ q, O q = true → L (q - 1) = false) → neededZ (linkedZ L O k) = cnt (fun q => decide (q + 1 < k) && L q) k + cnt O k)
  | 0 => ⟨Int.le_refl _, fun _ => rfl⟩
  | k + 1 => by
    obtain ⟨i1, i2⟩ := needed_le L O k
    obtain ⟨s1, s2⟩ := needed_step L O k
    have e : cnt (fun q => decide (q + 1 < k + 1) && L q) (k + 1) = cnt (fun q => decide (q + 1 < k) && L q) k + b2n (decide (0 < k) && L (k - 1)) := by
      rw [cnt_succ]
      have z : b2n (decide (k + 1 < k + 1) && L k) = 0 := by simp [b2n]
      rw [z]
      cases k with
      | zero => simp [cnt, b2n]
      | succ j =>
        rw [cnt_succ, cnt_succ]
        have c : cnt (fun q => decide (q + 1 < j + 1 + 1) && L q) j = cnt (fun q => decide (q + 1 < j + 1) && L q) j := by
          unfold cnt
          congr 2
          refine List.filter_congr fun q hq => ?_
          have := List.mem_range.mp hq
          rw [decide_eq_true (by omega), decide_eq_true (by omega)]
        rw [c]
        simp [b2n]
    rw [e, cnt_succ]
    exact ⟨by omega, fun h => by have := i2 h; have := s2 (h k); omega⟩
def lk (n : Nat) (cs : List Cmd) (q : Nat) : Bool := cs.any fun c => c.one && decide (c.p = (q : Int)) && decide (q + 1 < n)
def op (n : Nat) (cs : List Cmd) (q : Nat) : Bool := cs.any fun c => decide (c.p = (q : Int)) && (!c.one || decide (q + 1 = n))
theorem lk_iff {n : Nat} {cs : List Cmd} {q : Nat} : lk n cs q = true ↔ q + 1 < n ∧ ∃ c ∈ cs, c.one = true ∧ c.p = (q : Int) := by
  unfold lk
  rw [List.any_eq_true]
  simp only [Bool.and_eq_true, decide_eq_true_eq]
  constructor
  · rintro ⟨c, hc, ⟨h1, h2⟩, h3⟩; exact ⟨h3, c, hc, h1, h2⟩
  · rintro ⟨h3, c, hc, h1, h2⟩; exact ⟨c, hc, ⟨h1, h2⟩, h3⟩
theorem op_iff {n : Nat} {cs : List Cmd} {q : Nat} : op n cs q = true ↔ ∃ c ∈ cs, c.p = (q : Int) ∧ (c.one = false ∨ q + 1 = n) := by
  unfold op
  rw [List.any_eq_true]
  simp only [Bool.and_eq_true, decide_eq_true_eq, Bool.or_eq_true, Bool.not_eq_true']
theorem sub_len {α : Type} [DecidableEq α] : ∀ {l m : List α}, l.Nodup → (∀ x ∈ l, x ∈ m) → l.length ≤ m.length
  | [], _, _, _ => Nat.zero_le _
  | x :: l, m, nd, h => by
    rw [List.nodup_cons] at nd
    have hx := h x (by simp)
    have := sub_len (l := l) (m := m.erase x) nd.2 fun y hy => (List.mem_erase_of_ne (fun e => nd.1 (by rw [← e]; exact hy))).mpr (h y (by simp [hy]))
    rw [List.length_erase_of_mem hx] at this
    have : 0 < m.length := List.length_pos_of_mem hx
    simp only [List.length_cons]
    omega
/-- commands enough -/
theorem needed_cmds (n : Nat) (cs : List Cmd) : neededZ (linkedZ (lk n cs) (op n cs) n) ≤ cs.length := by
  refine Int.le_trans (needed_le _ _ n).1 ?_
  have a : cnt (fun q => decide (q + 1 < n) && lk n cs q) n ≤ ((cs.filter fun c => c.one && decide (c.p + 1 < (n : Int))).length : Nat) := by
    unfold cnt
    have := sub_len (l := (List.range n).filter fun q => decide (q + 1 < n) && lk n cs q) (m := (cs.filter fun c => c.one && decide (c.p + 1 < (n : Int))).map fun c => c.p.toNat) (List.nodup_range.filter _) fun q hq => by
      obtain ⟨_, hq⟩ := List.mem_filter.mp hq
      rw [Bool.and_eq_true] at hq
      obtain ⟨h1, c, hc, h2, h3⟩ := lk_iff.mp hq.2
      refine List.mem_map.mpr ⟨c, List.mem_filter.mpr ⟨hc, ?_⟩, by omega⟩
      rw [h2, decide_eq_true (by omega)]; rfl
    rw [List.length_map] at this
    omega
  have b : cnt (op n cs) n ≤ ((cs.filter fun c => !(c.one && decide (c.p + 1 < (n : Int)))).length : Nat) := by
    unfold cnt
    have := sub_len (l := (List.range n).filter (op n cs)) (m := (cs.filter fun c => !(c.one && decide (c.p + 1 < (n : Int)))).map fun c => c.p.toNat) (List.nodup_range.filter _) fun q hq => by
      obtain ⟨_, hq⟩ := List.mem_filter.mp hq
      obtain ⟨c, hc, h2, h3⟩ := op_iff.mp hq
      refine List.mem_map.mpr ⟨c, List.mem_filter.mpr ⟨hc, ?_⟩, by omega⟩
      rcases h3 with h3 | h3
      · rw [h3]; rfl
      · rw [decide_eq_false (by omega)]; simp
    rw [List.length_map] at this
    omega
  have c : ∀ (P : Cmd → Bool) (cs : List Cmd), (cs.filter P).length + (cs.filter fun c => !P c).length = cs.length := by
    intro P cs
    induction cs with
    | nil => rfl
    | cons x xs ih => cases h : P x <;> simp [h] <;> omega
  have := c (fun c => c.one && decide (c.p + 1 < (n : Int))) cs
  omega
theorem nd_eq : ∀ {cs : List Cmd}, (cs.map (·.p)).Nodup → ∀ {c d : Cmd}, c ∈ cs → d ∈ cs → c.p = d.p → c = d
  | x :: xs, nd, c, d, hc, hd, e => by
    rw [List.map_cons, List.nodup_cons] at nd
    rcases List.mem_cons.mp hc with h1 | h1
    · rcases List.mem_cons.mp hd with h2 | h2
      · rw [h1, h2]
      · exact absurd (by rw [← h1, e]; exact List.mem_map_of_mem (f := (·.p)) h2) nd.1
    · rcases List.mem_cons.mp hd with h2 | h2
      · exact absurd (by rw [← h2, ← e]; exact List.mem_map_of_mem (f := (·.p)) h1) nd.1
      · exact nd_eq nd.2 h1 h2 e
/-- a plan has just as many -/
theorem needed_plan {n : Nat} {cs : List Cmd} (s : SafeC n cs) : neededZ (linkedZ (lk n cs) (op n cs) n) = cs.length := by
  have ap : ∀ q, op n cs q = true → lk n cs (q - 1) = false := by
    intro q hq
    obtain ⟨c, hc, h1, h2⟩ := op_iff.mp hq
    have ho : c.one = false := by
      rcases h2 with h2 | h2
      · exact h2
      · cases z : c.one with
        | false => rfl
        | true => have := s.one c hc z; omega
    cases z : lk n cs (q - 1) with
    | false => rfl
    | true =>
      obtain ⟨_, d, hd, d1, d2⟩ := lk_iff.mp z
      have := s.apart c hc d hd ho d1
      cases q with
      | zero =>
        have e : d.p = c.p := by omega
        have := nd_eq s.nd hd hc e
        subst this
        rw [ho] at d1; cases d1
      | succ q => simp only [Nat.add_sub_cancel] at d2; omega
  rw [(needed_le _ _ n).2 ap]
  have nn : ∀ (P : Cmd → Bool), ((cs.filter P).map fun c => c.p.toNat).Nodup := by
    intro P
    have e : (cs.filter P).map (fun c => c.p.toNat) = ((cs.filter P).map (·.p)).map Int.toNat := by simp
    rw [e]
    refine List.pairwise_map.mpr (List.Pairwise.imp_of_mem (fun {x y} hx hy hne hxy => hne ?_) (s.nd.sublist (List.filter_sublist.map _)))
    obtain ⟨c, hc, rfl⟩ := List.mem_map.mp hx
    obtain ⟨d, hd, rfl⟩ := List.mem_map.mp hy
    have := (s.at_ c (List.mem_filter.mp hc).1).1
    have := (s.at_ d (List.mem_filter.mp hd).1).1
    omega
  have a : cnt (fun q => decide (q + 1 < n) && lk n cs q) n = ((cs.filter fun c => c.one).length : Nat) := by
    unfold cnt
    congr 1
    rw [← List.length_map (f := fun c : Cmd => c.p.toNat) (as := cs.filter fun c => c.one)]
    refine List.Perm.length_eq ((List.perm_ext_iff_of_nodup (List.nodup_range.filter _) (nn _)).mpr fun q => ?_)
    rw [List.mem_filter, Bool.and_eq_true, decide_eq_true_eq, List.mem_range, lk_iff, List.mem_map]
    constructor
    · rintro ⟨h0, h1, h2, c, hc, h3, h4⟩
      exact ⟨c, List.mem_filter.mpr ⟨hc, h3⟩, by omega⟩
    · rintro ⟨c, hc, h4⟩
      obtain ⟨hc, h3⟩ := List.mem_filter.mp hc
      have := s.one c hc h3
      have := s.at_ c hc
      exact ⟨by omega, by omega, by omega, c, hc, h3, by omega⟩
  have b : cnt (op n cs) n = ((cs.filter fun c => !c.one).length : Nat) := by
    unfold cnt
    congr 1
    rw [← List.length_map (f := fun c : Cmd => c.p.toNat) (as := cs.filter fun c => !c.one)]
    refine List.Perm.length_eq ((List.perm_ext_iff_of_nodup (List.nodup_range.filter _) (nn _)).mpr fun q => ?_)
    rw [List.mem_filter, List.mem_range, op_iff, List.mem_map]
    constructor
    · rintro ⟨h0, c, hc, h3, h4⟩
      have ho : c.one = false := by
        rcases h4 with h4 | h4
        · exact h4
        · cases z : c.one with
          | false => rfl
          | true => have := s.one c hc z; omega
      exact ⟨c, List.mem_filter.mpr ⟨hc, by rw [ho]; rfl⟩, by omega⟩
    · rintro ⟨c, hc, h4⟩
      obtain ⟨hc, h3⟩ := List.mem_filter.mp hc
      have := s.at_ c hc
      exact ⟨by omega, c, hc, by omega, .inl (by simpa using h3)⟩
  rw [a, b]
  have c : ∀ (cs : List Cmd), (cs.filter fun c => c.one).length + (cs.filter fun c => !c.one).length = cs.length := by
    intro cs
    induction cs with
    | nil => rfl
    | cons x xs ih => cases h : x.one <;> simp [h] <;> omega
  have := c cs
  omega
theorem closed_back {n : Nat} {cs : List Cmd} (hp : ∀ c ∈ cs, 0 ≤ c.p ∧ c.p < n) {a : List Int} (ha : a.length = n) (hz : ∀ i, a.getD i 0 = 0) {s : Nat} (hs : s ∈ startsOf (lk n cs) (op n cs) n) (hc : (partOf (lk n cs) (op n cs) n s).2.2 = false) :
    (partOf (lk n cs) (op n cs) n s).2.1 < n ∧ (lastZ a cs).getD (partOf (lk n cs) (op n cs) n s).2.1 0 = (0 :: lastZ a cs).getD s 0 := by
  obtain ⟨h1, h2, h3⟩ := mem_starts.mp hs
  obtain ⟨r, hb⟩ := block_head h1 h2
  obtain ⟨e, he⟩ : ∃ e, (block (lk n cs) n s).getLast? = some e := by
    rw [hb]; exact ⟨_, List.getLast?_cons⟩
  have em := mem_block.mp (List.mem_of_getLast? he)
  have ee : (partOf (lk n cs) (op n cs) n s).2.1 = e := by unfold partOf; simp only [he, Option.getD_some]
  rw [ee]
  have le := st_le (lk n cs) e
  have top : ∀ q, q < n → st (lk n cs) q = s → q ≤ e := by
    intro q hq hqs
    obtain ⟨A, eA⟩ := List.getLast?_eq_some_iff.mp he
    have asc : (block (lk n cs) n s).Pairwise (· < ·) := List.pairwise_lt_range.filter _
    have hm : q ∈ block (lk n cs) n s := mem_block.mpr ⟨hq, hqs⟩
    rw [eA] at asc hm
    rcases List.mem_append.mp hm with hm | hm
    · have := (List.pairwise_append.mp asc).2.2 q hm e (by simp)
      omega
    · have : q = e := by simpa using hm
      omega
  have noO : ∀ q, s ≤ q → q ≤ e → op n cs q = false := by
    intro q h1 h2
    have hm : q ∈ block (lk n cs) n s := mem_block.mpr ⟨by omega, st_mid em.2 h1 h2⟩
    have : (block (lk n cs) n s).any (op n cs) = false := hc
    rw [List.any_eq_false] at this
    have := this q hm
    simpa using this
  have noL1 : lk n cs e = false := by
    cases z : lk n cs e with
    | false => rfl
    | true =>
      have := (lk_iff.mp z).1
      have h4 := top (e + 1) this (by rw [st, if_pos z]; exact em.2)
      omega
  have noL0 : 0 < s → lk n cs (s - 1) = false := by
    intro h0
    obtain ⟨j, rfl⟩ : ∃ j, s = j + 1 := ⟨s - 1, by omega⟩
    cases z : lk n cs (j + 1 - 1) with
    | false => rfl
    | true =>
      have z : lk n cs j = true := z
      rw [st, if_pos z] at h2
      have := st_le (lk n cs) j
      omega
  refine ⟨em.1, ?_⟩
  have each : ∀ c ∈ cs, eff n c e = if s = 0 then 0 else eff n c (s - 1) := by
    intro c hc
    obtain ⟨p0, p1⟩ := hp c hc
    obtain ⟨o, p, v⟩ := c
    obtain ⟨k, rfl⟩ := Int.eq_ofNat_of_zero_le p0
    have hk : k < n := by have : (k : Int) < n := p1; omega
    unfold eff Cmd.end
    simp only [Int.toNat_natCast]
    cases o with
    | true =>
      have k1 : k ≠ e := by
        rintro rfl
        by_cases q : k + 1 < n
        · have := lk_iff.mpr ⟨q, _, hc, rfl, rfl⟩
          rw [noL1] at this; cases this
        · have := (op_iff (n := n) (q := k)).mpr ⟨_, hc, rfl, .inr (by omega)⟩
          rw [noO k (by omega) (Nat.le_refl _)] at this; cases this
      simp only [if_true]
      rw [if_neg (by omega)]
      by_cases h0 : s = 0
      · rw [if_pos h0]
      · rw [if_neg h0, if_neg]
        rintro ⟨q1, q2⟩
        have : k = s - 1 := by omega
        subst this
        have := (lk_iff (n := n) (q := s - 1)).mpr ⟨by omega, _, hc, rfl, rfl⟩
        rw [noL0 (by omega)] at this; cases this
    | false =>
      have k1 : ¬ (s ≤ k ∧ k ≤ e) := by
        rintro ⟨q1, q2⟩
        have := (op_iff (n := n) (q := k)).mpr ⟨_, hc, rfl, .inl rfl⟩
        rw [noO k q1 q2] at this; cases this
      simp only [Bool.false_eq_true, if_false]
      by_cases h0 : s = 0
      · rw [if_pos h0, if_neg (by omega)]
      · rw [if_neg h0]
        by_cases h5 : k < s
        · rw [if_pos (by omega), if_pos (by omega)]
        · rw [if_neg (by omega), if_neg (by omega)]
  have eq1 := lastZ_get (i := e) cs a (by omega)
  rw [ha, hz e] at eq1
  rw [eq1]
  cases s with
  | zero =>
    rw [show (0 :: lastZ a cs).getD 0 0 = 0 from rfl]
    have : (cs.map fun c => eff n c e).sum = 0 := sum_zero fun c hc => by have := each c hc; simpa using this
    omega
  | succ s =>
    have eq2 := lastZ_get (i := s) cs a (by omega)
    rw [ha, hz s] at eq2
    rw [prevS, eq2]
    congr 2
    refine List.map_congr_left fun c hc => ?_
    have := each c hc
    simpa using this
end Cap
set_option Elab.async false
set_option linter.all false
set_option maxRecDepth 100000
set_option maxHeartbeats 4000000
namespace Cap
open PySem PySem.Spec L2 Mi
def partD (p : LPart) : D := .tuple [.int (p.1 : Nat), .int (p.2.1 : Nat), .bool p.2.2]
def partsD (ps : List LPart) : List D := ps.map partD
theorem partsD_app (a b : List LPart) : partsD (a ++ b) = partsD a ++ partsD b := by simp [partsD]
theorem partsD_len (a : List LPart) : (partsD a).length = a.length := by simp [partsD]
theorem in_intsL (k : Int) (K : List Int) : inD false (.int k) (.list (intsD K)) = some (.bool (decide (k ∈ K))) := by
  have e1 : inOk (.int k) (intsD K) = true := by
    unfold inOk
    rw [plainAll_ints, depthAll_ints]
    simp [PyData.plain, PyData.depth]
  have e2 : ((intsD K).any fun y => PyData.eqv y (.int k)) = decide (k ∈ K) := by
    clear e1
    induction K with
    | nil => simp [intsD]
    | cons x K ih =>
      rw [intsD_cons, List.any_cons, ih]
      by_cases q : x = k
      · subst q; simp [PyData.eqv]
      · have q2 : ¬ k = x := fun z => q z.symm
        simp [PyData.eqv, q, q2]
  simp only [inD, e1, e2, if_true]
  rfl
def linksI (n : Nat) (cs : List Cmd) : List Int := (cs.filter fun c => c.one && decide (c.p < (n : Int) - 1)).map (·.p)
def opensI (n : Nat) (cs : List Cmd) : List Int := (cs.filter fun c => !c.one || decide (c.p = (n : Int) - 1)).map (·.p)
theorem links_iff (n : Nat) (cs : List Cmd) (q : Nat) : decide ((q : Int) ∈ linksI n cs) = lk n cs q := by
  by_cases h : lk n cs q = true
  · rw [h, decide_eq_true_eq]
    obtain ⟨h1, c, hc, h2, h3⟩ := lk_iff.mp h
    exact List.mem_map.mpr ⟨c, List.mem_filter.mpr ⟨hc, by rw [h2, decide_eq_true (by omega)]; rfl⟩, h3⟩
  · have h' : lk n cs q = false := by simpa using h
    rw [h', decide_eq_false_iff_not]
    intro hm
    obtain ⟨c, hc, h3⟩ := List.mem_map.mp hm
    obtain ⟨hc, h4⟩ := List.mem_filter.mp hc
    simp only [Bool.and_eq_true, decide_eq_true_eq] at h4
    exact h (lk_iff.mpr ⟨by omega, c, hc, h4.1, h3⟩)
theorem opens_iff (n : Nat) (cs : List Cmd) (q : Nat) : decide ((q : Int) ∈ opensI n cs) = op n cs q := by
  by_cases h : op n cs q = true
  · rw [h, decide_eq_true_eq]
    obtain ⟨c, hc, h2, h3⟩ := op_iff.mp h
    refine List.mem_map.mpr ⟨c, List.mem_filter.mpr ⟨hc, ?_⟩, h2⟩
    rcases h3 with h3 | h3
    · rw [h3]; rfl
    · rw [decide_eq_true (by omega)]; simp
  · have h' : op n cs q = false := by simpa using h
    rw [h', decide_eq_false_iff_not]
    intro hm
    obtain ⟨c, hc, h3⟩ := List.mem_map.mp hm
    obtain ⟨hc, h4⟩ := List.mem_filter.mp hc
    simp only [Bool.or_eq_true, decide_eq_true_eq, Bool.not_eq_true'] at h4
    refine h (op_iff.mpr ⟨c, hc, h3, ?_⟩)
    rcases h4 with h4 | h4
    · exact .inl h4
    · exact .inr (by omega)
theorem linked_len (L O : Nat → Bool) (k : Nat) : (linkedZ L O k).length ≤ k := by
  rw [linked_parts, List.length_map]
  unfold startsOf
  have := List.length_filter_le (fun m => decide (st L m = m) && (L m || O m)) (List.range k)
  simpa using this
theorem ixN_last {n : Nat} (h : 0 < n) : ixN n (-1) = some (n - 1) := by
  unfold ixN
  rw [if_neg (by omega), if_pos (by omega)]
  congr 1
  omega
theorem linked_turn (n : Nat) (cs : List Cmd) (last : D) (L O : List Int) (hL : ∀ q : Nat, decide ((q : Int) ∈ L) = lk n cs q) (hO : ∀ q : Nat, decide ((q : Int) ∈ O) = op n cs q) (k : Nat) (hk : k < 1000) (s0 s1 s9 s10 s11 : Slot) :
    ∃ t9 t10 t11, L1_linked [s0, s1, .fz last, .fz (.list (intsD L)), .fz (.list (intsD O)), .ow (.list (partsD (linkedZ (lk n cs) (op n cs) k))), .fz (.int k), .un, .un, s9, s10, s11] =
      .nx [s0, s1, .fz last, .fz (.list (intsD L)), .fz (.list (intsD O)), .ow (.list (partsD (linkedZ (lk n cs) (op n cs) (k + 1)))), .fz (.int k), .un, .un, t9, t10, t11] := by
  have len := linked_len (lk n cs) (op n cs) k
  have i1 := in_intsL (k : Int) L
  rw [hL] at i1
  have i2 := in_intsL (k : Int) O
  rw [hO] at i2
  rw [linkedZ]
  by_cases h0 : 0 < k
  · obtain ⟨j, rfl⟩ : ∃ j, k = j + 1 := ⟨k - 1, by omega⟩
    have i3 := in_intsL (((j + 1 : Nat) : Int) - 1) L
    rw [show ((j + 1 : Nat) : Int) - 1 = (j : Int) by omega, hL] at i3
    have e0 : ((j + 1 : Nat) : Int) - 1 = (j : Int) := by omega
    have h1 : (0 : Int) < ((j + 1 : Nat) : Int) := by omega
    by_cases hl : lk n cs j = true
    · rw [if_pos ⟨h0, by simpa using hl⟩]
      obtain ⟨p, hp⟩ := linked_some (lk n cs) (op n cs) j hl
      rw [hp]
      obtain ⟨s, e, o⟩ := p
      have al : atI (partsD (linkedZ (lk n cs) (op n cs) (j + 1))) (-1) = some (.tuple [.int (s : Nat), .int (e : Nat), .bool o]) := atI_last (by
        simp only [partsD, List.getLast?_map, hp, Option.map_some, partD])
      have sp : ∀ x : D, (partsD (linkedZ (lk n cs) (op n cs) (j + 1))).set ((partsD (linkedZ (lk n cs) (op n cs) (j + 1))).length - 1) x = partsD ((linkedZ (lk n cs) (op n cs) (j + 1)).dropLast) ++ [x] := by
        intro x
        obtain ⟨A, eA⟩ := List.getLast?_eq_some_iff.mp hp
        rw [eA, List.dropLast_concat, partsD_app]
        simp [partsD]
      have pos : 0 < (partsD (linkedZ (lk n cs) (op n cs) (j + 1))).length := by
        obtain ⟨A, eA⟩ := List.getLast?_eq_some_iff.mp hp
        rw [eA]; simp [partsD]
      have ix := ixN_last pos
      refine ⟨.fz (.int s), .fz (.int e), .fz (.bool o), ?_⟩
      dsimp only
      rw [partsD_app, show partsD [(s, j + 1, o || op n cs (j + 1))] = [.tuple [.int s, .int ((j + 1 : Nat) : Int), .bool (o || op n cs (j + 1))]] from rfl]
      generalize hQ : partsD (linkedZ (lk n cs) (op n cs) (j + 1)) = Q at *
      generalize ((j + 1 : Nat) : Int) = kk at *
      cases o
      · simp [L1_linked, h1, e0, i3, hl, al, i2, ix, sp]
      · simp [L1_linked, h1, e0, i3, hl, al, i2, ix, sp]
    · have hl' : lk n cs j = false := by simpa using hl
      rw [if_neg (fun z => hl (by simpa using z.2))]
      have l1 : (partsD (linkedZ (lk n cs) (op n cs) (j + 1))).length < 1000000 := by rw [partsD_len]; omega
      refine ⟨s9, s10, s11, ?_⟩
      by_cases q : (lk n cs (j + 1) || op n cs (j + 1)) = true
      · rw [if_pos q, partsD_app, show partsD [(j + 1, j + 1, op n cs (j + 1))] = [.tuple [.int ((j + 1 : Nat) : Int), .int ((j + 1 : Nat) : Int), .bool (op n cs (j + 1))]] from rfl]
        generalize partsD (linkedZ (lk n cs) (op n cs) (j + 1)) = Q at *
        generalize ((j + 1 : Nat) : Int) = kk at *
        cases z1 : lk n cs (j + 1) <;> cases z2 : op n cs (j + 1) <;> simp [L1_linked, h1, e0, i3, hl', i1, i2, z1, z2, l1] <;> simp [z1, z2] at q
      · rw [if_neg q]
        have z1 : lk n cs (j + 1) = false := by cases z : lk n cs (j + 1) with | false => rfl | true => rw [z] at q; simp at q
        have z2 : op n cs (j + 1) = false := by cases z : op n cs (j + 1) with | false => rfl | true => rw [z] at q; simp at q
        generalize ((j + 1 : Nat) : Int) = kk at *
        simp [L1_linked, h1, e0, i3, hl', i1, i2, z1, z2]
  · obtain rfl : k = 0 := by omega
    rw [if_neg (fun z => h0 z.1)]
    refine ⟨s9, s10, s11, ?_⟩
    by_cases q : (lk n cs 0 || op n cs 0) = true
    · rw [if_pos q, partsD_app, show partsD [(0, 0, op n cs 0)] = [.tuple [.int ((0 : Nat) : Int), .int ((0 : Nat) : Int), .bool (op n cs 0)]] from rfl, show partsD (linkedZ (lk n cs) (op n cs) 0) = [] from rfl]
      cases z1 : lk n cs 0 <;> cases z2 : op n cs 0 <;> simp only [z1, z2] at i1 i2 q <;> simp at q <;> simp at i1 i2 <;> simp [L1_linked, i1, i2, z1, z2]
    · rw [if_neg q, show partsD (linkedZ (lk n cs) (op n cs) 0) = [] from rfl]
      have z1 : lk n cs 0 = false := by cases z : lk n cs 0 with | false => rfl | true => rw [z] at q; simp at q
      have z2 : op n cs 0 = false := by cases z : op n cs 0 with | false => rfl | true => rw [z] at q; simp at q
      rw [z1] at i1
      rw [z2] at i2
      simp at i1 i2
      simp [L1_linked, i1, i2]
theorem linked_loop (n : Nat) (cs : List Cmd) (last : D) (L O : List Int) (hL : ∀ q : Nat, decide ((q : Int) ∈ L) = lk n cs q) (hO : ∀ q : Nat, decide ((q : Int) ∈ O) = op n cs q) (s0 s1 : Slot) : ∀ (d k : Nat) (s6 s9 s10 s11 : Slot), k + d ≤ 1000 →
    ∃ t6 t9 t10 t11, forL (.name 6) L1_linked ((List.range' k d).map fun i => .int ((0 : Int) + (i : Nat))) [s0, s1, .fz last, .fz (.list (intsD L)), .fz (.list (intsD O)), .ow (.list (partsD (linkedZ (lk n cs) (op n cs) k))), s6, .un, .un, s9, s10, s11] =
      .nx [s0, s1, .fz last, .fz (.list (intsD L)), .fz (.list (intsD O)), .ow (.list (partsD (linkedZ (lk n cs) (op n cs) (k + d)))), t6, .un, .un, t9, t10, t11]
  | 0, k, s6, s9, s10, s11, _ => ⟨s6, s9, s10, s11, rfl⟩
  | d + 1, k, s6, s9, s10, s11, h => by
    obtain ⟨t9, t10, t11, e⟩ := linked_turn n cs last L O hL hO k (by omega) s0 s1 s9 s10 s11
    obtain ⟨u6, u9, u10, u11, e2⟩ := linked_loop n cs last L O hL hO s0 s1 d (k + 1) (.fz (.int k)) t9 t10 t11 (by omega)
    refine ⟨u6, u9, u10, u11, ?_⟩
    rw [List.range'_succ, List.map_cons]
    simp only [forL, e_putNm, List.set_cons_succ, List.set_cons_zero, Int.zero_add]
    rw [e]
    simp only [Int.zero_add] at e2
    rw [show k + (d + 1) = k + 1 + d by omega]
    exact e2
theorem linked_ok (n : Nat) (h1 : 1 ≤ n) (h2 : n ≤ 30) (cs : List Cmd) (g : GoodC n cs) : F_linked [] [.int n, .tuple (cmdsD cs)] = .ok (.list (partsD (linkedZ (lk n cs) (op n cs) n))) [] := by
  have rq := require_script_ok n cs g.many g.ok
  have rl := require_length_ok (n : Int) (by omega) (by omega)
  have gm := g.many
  have cl : (cmdsD cs).length ≤ 1000000 := by rw [cmdsD_len]; omega
  have c1 := lcL_filterT (vs := [7, 6, 8]) (t := .tup [7, 6, 8]) (ft := T1_linked) (fe := C1_linked) (ρ := [.fz (.int n), .fz (.tuple (cmdsD cs)), .fz (.int ((n : Int) - 1)), .un, .un, .un, .un, .un, .un, .un, .un, .un]) Cmd.d (fun c => .int c.p) (fun c => c.one && decide (c.p < (n : Int) - 1)) cs (by
    intro c hc
    refine ⟨[.fz (.int n), .fz (.tuple (cmdsD cs)), .fz (.int ((n : Int) - 1)), .un, .un, .un, .fz (.int c.p), .fz (.str (word c.one)), .fz (.int c.v), .un, .un, .un], by simp [wipeR, Cmd.d], ?_, by simp [C1_linked], by simp [backR, keepS]⟩
    cases q : c.one <;> simp [T1_linked, eq_word, q])
  have c2 := lcL_filterT (vs := [7, 6, 8]) (t := .tup [7, 6, 8]) (ft := T2_linked) (fe := C1_linked) (ρ := [.fz (.int n), .fz (.tuple (cmdsD cs)), .fz (.int ((n : Int) - 1)), .fz (.list (intsD (linksI n cs))), .un, .un, .un, .un, .un, .un, .un, .un]) Cmd.d (fun c => .int c.p) (fun c => !c.one || decide (c.p = (n : Int) - 1)) cs (by
    intro c hc
    refine ⟨[.fz (.int n), .fz (.tuple (cmdsD cs)), .fz (.int ((n : Int) - 1)), .fz (.list (intsD (linksI n cs))), .un, .un, .fz (.int c.p), .fz (.str (word c.one)), .fz (.int c.v), .un, .un, .un], by simp [wipeR, Cmd.d], ?_, by simp [C1_linked], by simp [backR, keepS]⟩
    cases q : c.one <;> simp [T2_linked, eq_follow, q])
  have z1 : (cs.filter fun c => c.one && decide (c.p < (n : Int) - 1)).map (fun c => (.int c.p : D)) = intsD (linksI n cs) := by simp [linksI, intsD]
  have z2 : (cs.filter fun c => !c.one || decide (c.p = (n : Int) - 1)).map (fun c => (.int c.p : D)) = intsD (opensI n cs) := by simp [opensI, intsD]
  rw [z1] at c1
  rw [z2] at c2
  have c1 : lcL [7, 6, 8] (.tup [7, 6, 8]) T1_linked C1_linked (cmdsD cs) _ = _ := c1
  have c2 : lcL [7, 6, 8] (.tup [7, 6, 8]) T2_linked C1_linked (cmdsD cs) _ = _ := c2
  obtain ⟨t6, t9, t10, t11, e⟩ := linked_loop n cs (.int ((n : Int) - 1)) (linksI n cs) (opensI n cs) (links_iff n cs) (opens_iff n cs) (.fz (.int n)) (.fz (.tuple (cmdsD cs))) n 0 .un .un .un .un (by omega)
  rw [← rngD_range', Nat.zero_add, show partsD (linkedZ (lk n cs) (op n cs) 0) = [] from rfl] at e
  have r1 : rng1 [.int (n : Int)] = some (rngD 0 n) := by
    rw [e_rng1, if_pos (by omega)]
    rfl
  simp only [F_linked, M_linked, e_runF, e_startR, e_mSeq]
  simp [rl, rq, cl, c1, c2, r1, e, -e_rng1]
end Cap
set_option Elab.async false
set_option linter.all false
set_option maxRecDepth 100000
set_option maxHeartbeats 4000000
namespace Cap
open PySem PySem.Spec L2 Mi
theorem law_needed_ok (ps : List LPart) (h : ps.length ≤ 1000) : F__law_needed [] [.list (partsD ps)] = .ok (.int (neededZ ps)) [] := by
  have e := lcL_mapT (vs := [1, 2, 3]) (t := .tup [1, 2, 3]) (fe := C1__law_needed) (ρ := [.fz (.list (partsD ps)), .un, .un, .un]) partD (fun p => .int (((p.2.1 : Int) - p.1) + if p.2.2 then 1 else 0)) ps fun p _ =>
    ⟨[.fz (.list (partsD ps)), .fz (.int (p.1 : Nat)), .fz (.int (p.2.1 : Nat)), .fz (.bool p.2.2)], by simp [wipeR, partD], by
      cases q : p.2.2 <;> simp [C1__law_needed, q], by simp [backR, keepS]⟩
  have e3 : ps.map (fun p => PyData.int (((p.2.1 : Int) - p.1) + if p.2.2 then 1 else 0)) = intsD (ps.map fun p => ((p.2.1 : Int) - p.1) + if p.2.2 then 1 else 0) := by simp [intsD]
  rw [e3] at e
  have e : lcL [1, 2, 3] (.tup [1, 2, 3]) mYes C1__law_needed (partsD ps) _ = _ := e
  have l : (partsD ps).length ≤ 1000000 := by rw [partsD_len]; omega
  simp [F__law_needed, M__law_needed, l, e]
  rfl
theorem st_add {L L' : Nat → Bool} {p : Nat} (h : ∀ q, L' q = (L q || decide (q = p))) : ∀ q, st L' q = if st L q = st L (p + 1) then st L p else st L q := by
  by_cases hp : L p = true
  · have e : L' = L := by
      funext q
      rw [h]
      by_cases z : q = p
      · subst z; simp [hp]
      · simp [z]
    intro q
    rw [e]
    have : st L (p + 1) = st L p := by rw [st, if_pos hp]
    rw [this]
    split
    · assumption
    · rfl
  · have e1 : st L (p + 1) = p + 1 := by rw [st, if_neg hp]
    rw [e1]
    intro q
    induction q with
    | zero =>
      rw [if_neg (by rw [st]; omega)]; rfl
    | succ q ih =>
      by_cases z : q = p
      · subst z
        have := st_le L q
        rw [if_neg (by omega)] at ih
        rw [e1, if_pos rfl, st, if_pos (by rw [h]; simp), ih]
      · by_cases hl : L q = true
        · have e2 : st L (q + 1) = st L q := by rw [st, if_pos hl]
          have e3 : st L' (q + 1) = st L' q := by rw [st, if_pos (by rw [h, hl]; rfl)]
          rw [e2, e3, ih]
        · have e2 : st L (q + 1) = q + 1 := by rw [st, if_neg hl]
          have e3 : st L' (q + 1) = q + 1 := by rw [st, if_neg (by rw [h]; simp [hl, z])]
          rw [e2, e3, if_neg (by omega)]
def marksZ (n : Nat) (cs : List Cmd) : List Int := (List.range n).map fun q => ((st (lk n cs) q : Nat) : Int)
def linkC (n : Nat) (c : Cmd) : Bool := c.one && decide (c.p < (n : Int) - 1)
def opensJ (n : Nat) (cs : List Cmd) : List Int := (cs.filter fun c => !linkC n c).map (·.p)
def touchI (n : Nat) (cs : List Cmd) : List Int := cs.flatMap fun c => if linkC n c then [c.p, c.p + 1] else [c.p]
theorem touch_len (n : Nat) : ∀ cs : List Cmd, (touchI n cs).length ≤ 2 * cs.length
  | [] => by simp [touchI]
  | x :: xs => by
    have ih := touch_len n xs
    have e : touchI n (x :: xs) = (if linkC n x then [x.p, x.p + 1] else [x.p]) ++ touchI n xs := by unfold touchI; rw [List.flatMap_cons]
    rw [e, List.length_append, List.length_cons]
    split <;> simp only [List.length_cons, List.length_nil] <;> omega
theorem lk_snoc (n : Nat) (cs : List Cmd) (c : Cmd) (q : Nat) : lk n (cs ++ [c]) q = (lk n cs q || (c.one && decide (c.p = (q : Int)) && decide (q + 1 < n))) := by
  simp [lk]
theorem marks_link {n : Nat} {cs : List Cmd} {c : Cmd} {p : Nat} (hc : linkC n c = true) (hp : c.p = (p : Int)) : marksZ n (cs ++ [c]) = (marksZ n cs).map fun m : Int => if m = (st (lk n cs) (p + 1) : Nat) then ((st (lk n cs) p : Nat) : Int) else m := by
  unfold linkC at hc
  simp only [Bool.and_eq_true, decide_eq_true_eq] at hc
  have := st_add (L := lk n cs) (L' := lk n (cs ++ [c])) (p := p) fun q => by
    rw [lk_snoc, hc.1, hp]
    congr 1
    by_cases z : q = p
    · subst z; simp; omega
    · have : ¬ (p : Int) = (q : Int) := by omega
      simp [z, this]
  unfold marksZ
  rw [List.map_map]
  refine List.map_congr_left fun q _ => ?_
  rw [this, Function.comp_apply]
  by_cases z : st (lk n cs) q = st (lk n cs) (p + 1)
  · rw [if_pos z, if_pos (by omega)]
  · rw [if_neg z, if_neg (by omega)]
theorem marks_none {n : Nat} {cs : List Cmd} {c : Cmd} (hc : linkC n c = false) : marksZ n (cs ++ [c]) = marksZ n cs := by
  have : lk n (cs ++ [c]) = lk n cs := by
    funext q
    rw [lk_snoc]
    have : (c.one && decide (c.p = (q : Int)) && decide (q + 1 < n)) = false := by
      cases ho : c.one with
      | false => rfl
      | true =>
        unfold linkC at hc
        rw [ho] at hc
        simp only [Bool.true_and, decide_eq_false_iff_not] at hc
        by_cases z : c.p = (q : Int)
        · simp; omega
        · simp [z]
    rw [this, Bool.or_false]
  unfold marksZ
  rw [this]
theorem marks_get {n : Nat} {cs : List Cmd} {q : Nat} (h : q < n) : atI (intsD (marksZ n cs)) (q : Int) = some (.int (st (lk n cs) q : Nat)) := by
  have := atI_ints (xs := marksZ n cs) (i := q) (by simpa [marksZ] using h)
  rw [this]
  simp [marksZ, List.getD, h]
theorem lturn (n : Nat) (hn : n ≤ 1000) (x1 : Slot) (cs : List Cmd) (c : Cmd) (hl : cs.length ≤ 1000) (p0 : 0 ≤ c.p) (p1 : c.p < n) (s11 s12 : Slot) :
    ∃ t11 t12, L1__law_linked [.fz (.int n), x1, .fz (.list (intsD (marksZ n cs))), .ow (.list (intsD (opensJ n cs))), .ow (.list (intsD (touchI n cs))), .fz (.str (word c.one)), .fz (.int c.p), .fz (.int c.v), .un, .un, .un, s11, s12] =
      .nx [.fz (.int n), x1, .fz (.list (intsD (marksZ n (cs ++ [c])))), .ow (.list (intsD (opensJ n (cs ++ [c])))), .ow (.list (intsD (touchI n (cs ++ [c])))), .fz (.str (word c.one)), .fz (.int c.p), .fz (.int c.v), .un, .un, .un, t11, t12] := by
  obtain ⟨o, p, v⟩ := c
  obtain ⟨k, rfl⟩ := Int.eq_ofNat_of_zero_le p0
  have hk : k < n := by have : (k : Int) < n := p1; omega
  have tl := touch_len n
  have t1 : (intsD (touchI n cs)).length < 1000000 := by have := tl cs; simp; omega
  have t2 : (intsD (touchI n cs)).length + 1 < 1000000 := by have := tl cs; simp; omega
  have ol : (intsD (opensJ n cs)).length < 1000000 := by
    have := List.length_filter_le (fun c => !linkC n c) cs
    simp [opensJ]; omega
  by_cases hc : linkC n ⟨o, k, v⟩ = true
  · obtain ⟨ho, hk2⟩ : o = true ∧ (k : Int) < (n : Int) - 1 := by
      unfold linkC at hc
      simpa using hc
    subst ho
    rw [marks_link (p := k) hc rfl]
    have o1 : opensJ n (cs ++ [⟨true, k, v⟩]) = opensJ n cs := by simp [opensJ, hc]
    have o2 : touchI n (cs ++ [⟨true, k, v⟩]) = touchI n cs ++ [(k : Int), (k : Int) + 1] := by simp [touchI, hc]
    rw [o1, o2]
    have m1 := marks_get (n := n) (cs := cs) (q := k) hk
    have m2 := marks_get (n := n) (cs := cs) (q := k + 1) (by omega)
    rw [show ((k + 1 : Nat) : Int) = (k : Int) + 1 by omega] at m2
    have comp := lcL_1 (v := 9) (fe := C1__law_linked) (ρ := [.fz (.int n), x1, .fz (.list (intsD (marksZ n cs))), .ow (.list (intsD (opensJ n cs))), .ow (.list (intsD (touchI n cs ++ [(k : Int), (k : Int) + 1]))), .fz (.str "one"), .fz (.int k), .fz (.int v), .un, .un, .un, .fz (.int (st (lk n cs) (k + 1) : Nat)), .fz (.int (st (lk n cs) k : Nat))]) rfl
      (fun m : Int => .int m) (fun m => .int (if m = (st (lk n cs) (k + 1) : Nat) then ((st (lk n cs) k : Nat) : Int) else m)) (marksZ n cs) (by
        intro m _
        by_cases z : m = ((st (lk n cs) (k + 1) : Nat) : Int)
        · simp [C1__law_linked, z]
        · simp [C1__law_linked, z])
    have comp : lcL [9] (.name 9) mYes C1__law_linked (intsD (marksZ n cs)) _ = _ := comp
    have z3 : (marksZ n cs).map (fun m => (.int (if m = ((st (lk n cs) (k + 1) : Nat) : Int) then ((st (lk n cs) k : Nat) : Int) else m) : D)) = intsD ((marksZ n cs).map fun m : Int => if m = (st (lk n cs) (k + 1) : Nat) then ((st (lk n cs) k : Nat) : Int) else m) := by simp [intsD]
    rw [z3] at comp
    have ml : (intsD (marksZ n cs)).length ≤ 1000000 := by simp [marksZ]; omega
    have app : intsD (touchI n cs ++ [(k : Int), (k : Int) + 1]) = intsD (touchI n cs) ++ [.int k, .int ((k : Int) + 1)] := by rw [intsD_app]; rfl
    rw [app] at comp ⊢
    refine ⟨.fz (.int (st (lk n cs) (k + 1) : Nat)), .fz (.int (st (lk n cs) k : Nat)), ?_⟩
    generalize intsD (touchI n cs) = T at *
    generalize intsD (marksZ n cs) = Mk at *
    have wt : word true = "one" := rfl
    have w1 : eqD (.str "one") (.str "one") = some (.bool true) := eq_word true
    simp [L1__law_linked, wt, w1, hk2, t1, t2, m1, m2, ml, comp]
  · have hc' : linkC n ⟨o, k, v⟩ = false := by simpa using hc
    rw [marks_none hc']
    have o1 : opensJ n (cs ++ [⟨o, k, v⟩]) = opensJ n cs ++ [(k : Int)] := by simp [opensJ, hc']
    have o2 : touchI n (cs ++ [⟨o, k, v⟩]) = touchI n cs ++ [(k : Int)] := by simp [touchI, hc']
    rw [o1, o2, intsD_app, intsD_app]
    refine ⟨s11, s12, ?_⟩
    have ho : intsD [(k : Int)] = [.int k] := rfl
    rw [ho]
    generalize intsD (touchI n cs) = T at *
    generalize intsD (opensJ n cs) = O at *
    cases o with
    | false => simp [L1__law_linked, eq_word, t1, ol]
    | true =>
      have hk2 : ¬ (k : Int) < (n : Int) - 1 := by
        intro z
        have : linkC n ⟨true, k, v⟩ = true := by simp [linkC, z]
        rw [hc'] at this; cases this
      simp [L1__law_linked, eq_word, t1, ol, hk2]
theorem opensJ_iff (n : Nat) (cs : List Cmd) (h : ∀ c ∈ cs, 0 ≤ c.p ∧ c.p < n) (q : Nat) : decide ((q : Int) ∈ opensJ n cs) = op n cs q := by
  have e : opensJ n cs = opensI n cs := by
    unfold opensJ opensI
    congr 1
    refine List.filter_congr fun c hc => ?_
    have := h c hc
    unfold linkC
    cases c.one with
    | false => rfl
    | true =>
      by_cases z : c.p = (n : Int) - 1
      · rw [decide_eq_true z, decide_eq_false (by omega)]; rfl
      · rw [decide_eq_false z, decide_eq_true (by omega)]; rfl
  rw [e, opens_iff]
theorem touch_starts (n : Nat) (cs : List Cmd) (h : ∀ c ∈ cs, 0 ≤ c.p ∧ c.p < n) : setI ((touchI n cs).map fun t => ((st (lk n cs) t.toNat : Nat) : Int)) = natsI (startsOf (lk n cs) (op n cs) n) := by
  refine lt_uniq (setI_lt _) ?_ fun z => ?_
  · unfold natsI
    refine List.pairwise_map.mpr ((starts_asc _ _ n).imp fun h => by omega)
  · rw [mem_setI]
    unfold natsI
    rw [List.mem_map, List.mem_map]
    constructor
    · rintro ⟨t, ht, rfl⟩
      refine ⟨_, mem_starts.mpr ⟨?_, st_st _ _, ?_⟩, rfl⟩
      · have : t.toNat < n := by
          unfold touchI at ht
          obtain ⟨c, hc, ht⟩ := List.mem_flatMap.mp ht
          have := h c hc
          split at ht
          · rename_i hl
            unfold linkC at hl
            simp only [Bool.and_eq_true, decide_eq_true_eq] at hl
            simp only [List.mem_cons, List.not_mem_nil, or_false] at ht
            omega
          · simp only [List.mem_cons, List.not_mem_nil, or_false] at ht
            omega
        have := st_le (lk n cs) t.toNat
        omega
      · unfold touchI at ht
        obtain ⟨c, hc, ht⟩ := List.mem_flatMap.mp ht
        obtain ⟨c0, c1⟩ := h c hc
        obtain ⟨k, hk⟩ := Int.eq_ofNat_of_zero_le c0
        have main : ∀ q : Nat, (lk n cs q || op n cs q) = true → (lk n cs (st (lk n cs) q) || op n cs (st (lk n cs) q)) = true := by
          intro q hq
          by_cases z : st (lk n cs) q = q
          · rw [z]; exact hq
          · have := st_le (lk n cs) q
            rw [st_link (L := lk n cs) (e := q) (q := st (lk n cs) q) rfl (Nat.le_refl _) (by omega)]; rfl
        split at ht
        · rename_i hl
          unfold linkC at hl
          simp only [Bool.and_eq_true, decide_eq_true_eq] at hl
          have hlk : lk n cs k = true := lk_iff.mpr ⟨by omega, c, hc, hl.1, hk⟩
          simp only [List.mem_cons, List.not_mem_nil, or_false] at ht
          rcases ht with rfl | rfl
          · rw [hk, Int.toNat_natCast]
            exact main k (by rw [hlk]; rfl)
          · rw [hk, show ((k : Int) + 1).toNat = k + 1 by omega, show st (lk n cs) (k + 1) = st (lk n cs) k by rw [st, if_pos hlk]]
            exact main k (by rw [hlk]; rfl)
        · rename_i hl
          simp only [List.mem_cons, List.not_mem_nil, or_false] at ht
          subst ht
          rw [hk, Int.toNat_natCast]
          refine main k ?_
          have : op n cs k = true := by
            refine op_iff.mpr ⟨c, hc, hk, ?_⟩
            cases ho : c.one with
            | false => exact .inl rfl
            | true =>
              right
              have : ¬ c.p < (n : Int) - 1 := fun z => hl (by unfold linkC; rw [ho, decide_eq_true z]; rfl)
              omega
          rw [this, Bool.or_true]
    · rintro ⟨m, hm, rfl⟩
      obtain ⟨m1, m2, m3⟩ := mem_starts.mp hm
      refine ⟨(m : Int), ?_, by rw [Int.toNat_natCast, m2]⟩
      unfold touchI
      rw [List.mem_flatMap]
      rcases Bool.or_eq_true_iff.mp m3 with q | q
      · obtain ⟨_, c, hc, _, c2⟩ := lk_iff.mp q
        exact ⟨c, hc, by split <;> simp [c2]⟩
      · obtain ⟨c, hc, c2, _⟩ := op_iff.mp q
        exact ⟨c, hc, by split <;> simp [c2]⟩
theorem lturn2 (n : Nat) (hn : n ≤ 1000) (cs : List Cmd) (h : ∀ c ∈ cs, 0 ≤ c.p ∧ c.p < n) (x1 s4 s5 s6 s7 s10 s11 s12 : Slot) (h6 : keepS s6 = s6) (F : List LPart) (hF : F.length ≤ 1000) (m : Nat) (hm : m ∈ startsOf (lk n cs) (op n cs) n) :
    ∃ t10, L2__law_linked [.fz (.int n), x1, .fz (.list (intsD (marksZ n cs))), .ow (.list (intsD (opensJ n cs))), s4, s5, s6, s7, .ow (.list (partsD F)), .fz (.int m), s10, s11, s12] =
      .nx [.fz (.int n), x1, .fz (.list (intsD (marksZ n cs))), .ow (.list (intsD (opensJ n cs))), s4, s5, s6, s7, .ow (.list (partsD (F ++ [partOf (lk n cs) (op n cs) n m]))), .fz (.int m), t10, s11, s12] := by
  obtain ⟨m1, m2, m3⟩ := mem_starts.mp hm
  obtain ⟨r, hb⟩ := block_head m1 m2
  have c1 := lcL_filterT (vs := [6]) (t := .name 6) (ft := T1__law_linked) (fe := C3__law_linked) (ρ := [.fz (.int n), x1, .fz (.list (intsD (marksZ n cs))), .ow (.list (intsD (opensJ n cs))), s4, s5, s6, s7, .ow (.list (partsD F)), .fz (.int m), s10, s11, s12])
    (fun k : Nat => .int ((0 : Int) + (k : Nat))) (fun k : Nat => .int (k : Int)) (fun k => decide (st (lk n cs) k = m)) (List.range n) (by
      intro k hk
      have hk := List.mem_range.mp hk
      have a := marks_get (n := n) (cs := cs) hk
      have e1 : decide (((st (lk n cs) k : Nat) : Int) = (m : Int)) = decide (st (lk n cs) k = m) := by
        by_cases z : st (lk n cs) k = m
        · rw [decide_eq_true z, decide_eq_true (by omega)]
        · rw [decide_eq_false z, decide_eq_false (by omega)]
      exact ⟨[.fz (.int n), x1, .fz (.list (intsD (marksZ n cs))), .ow (.list (intsD (opensJ n cs))), s4, s5, .fz (.int k), s7, .ow (.list (partsD F)), .fz (.int m), s10, s11, s12], by simp [wipeR], by simp [T1__law_linked, a, e1], by simp [C3__law_linked], by simp [backR, h6]⟩)
  have c1 : lcL [6] (.name 6) T1__law_linked C3__law_linked (rngD 0 n) _ = .ok ((block (lk n cs) n m).map fun k : Nat => (.int (k : Int) : D)) _ := c1
  have z1 : (block (lk n cs) n m).map (fun k : Nat => (.int (k : Int) : D)) = intsD (natsI (block (lk n cs) n m)) := by simp [intsD, natsI]
  have c2 := lcL_filterT (vs := [6]) (t := .name 6) (ft := T2__law_linked) (fe := C3__law_linked) (ρ := [.fz (.int n), x1, .fz (.list (intsD (marksZ n cs))), .ow (.list (intsD (opensJ n cs))), s4, s5, s6, s7, .ow (.list (partsD F)), .fz (.int m), .fz (.list (intsD (natsI (block (lk n cs) n m)))), s11, s12])
    (fun k : Nat => .int (k : Int)) (fun k : Nat => .int (k : Int)) (op n cs) (block (lk n cs) n m) (by
      intro k hk
      have i := in_intsL (k : Int) (opensJ n cs)
      rw [opensJ_iff n cs h] at i
      exact ⟨[.fz (.int n), x1, .fz (.list (intsD (marksZ n cs))), .ow (.list (intsD (opensJ n cs))), s4, s5, .fz (.int k), s7, .ow (.list (partsD F)), .fz (.int m), .fz (.list (intsD (natsI (block (lk n cs) n m)))), s11, s12], by simp [wipeR], by simp [T2__law_linked, i], by simp [C3__law_linked], by simp [backR, h6]⟩)
  have z2 : ((block (lk n cs) n m).filter (op n cs)).map (fun k : Nat => (.int (k : Int) : D)) = intsD (natsI ((block (lk n cs) n m).filter (op n cs))) := by simp [intsD, natsI]
  rw [z2, z1] at c2
  rw [z1] at c1
  have ne := ne_ints (natsI ((block (lk n cs) n m).filter (op n cs))) []
  rw [intsD_nil] at ne
  have nn : decide (natsI ((block (lk n cs) n m).filter (op n cs)) ≠ []) = (block (lk n cs) n m).any (op n cs) := by
    cases q : (block (lk n cs) n m).any (op n cs) with
    | true =>
      rw [decide_eq_true_eq]
      obtain ⟨x, hx, hx2⟩ := List.any_eq_true.mp q
      intro z
      have : (block (lk n cs) n m).filter (op n cs) = [] := by simpa [natsI] using z
      exact List.filter_eq_nil_iff.mp this x hx hx2
    | false =>
      rw [decide_eq_false_iff_not]
      intro z
      apply z
      have : (block (lk n cs) n m).filter (op n cs) = [] := by
        rw [List.filter_eq_nil_iff]
        intro x hx
        have := List.any_eq_false.mp q x hx
        simpa using this
      rw [this]; rfl
  rw [nn] at ne
  have bl : (block (lk n cs) n m).length ≤ n := by
    have := List.length_filter_le (fun q => decide (st (lk n cs) q = m)) (List.range n)
    unfold block
    simpa using this
  obtain ⟨e, he⟩ : ∃ e, (block (lk n cs) n m).getLast? = some e := by
    rw [hb]; exact ⟨_, List.getLast?_cons⟩
  have al : atI (intsD (natsI (block (lk n cs) n m))) (-1) = some (.int (e : Nat)) := atI_last (by
    simp only [intsD, natsI, List.getLast?_map, he, Option.map_some])
  have a0 : atI (intsD (natsI (block (lk n cs) n m))) 0 = some (.int (m : Nat)) := by
    rw [hb, natsI_cons, intsD_cons]
    exact atI0
  have pe : partD (partOf (lk n cs) (op n cs) n m) = .tuple [.int (m : Nat), .int (e : Nat), .bool ((block (lk n cs) n m).any (op n cs))] := by
    unfold partD partOf
    simp only [he, Option.getD_some]
  rw [partsD_app, show partsD [partOf (lk n cs) (op n cs) n m] = [partD (partOf (lk n cs) (op n cs) n m)] from rfl, pe]
  have r1 : rng1 [.int (n : Int)] = some (rngD 0 n) := by
    rw [e_rng1, if_pos (by omega)]
    rfl
  have l0 : (rngD 0 n).length ≤ 1000000 := by rw [rngD_len]; omega
  have l1 : (intsD (natsI (block (lk n cs) n m))).length ≤ 1000000 := by simp; omega
  have l2 : (partsD F).length < 1000000 := by rw [partsD_len]; omega
  refine ⟨.fz (.list (intsD (natsI (block (lk n cs) n m)))), ?_⟩
  generalize intsD (natsI (block (lk n cs) n m)) = B at *
  generalize rngD 0 n = R at *
  generalize partsD F = Q at *
  generalize (block (lk n cs) n m).any (op n cs) = bb at *
  simp [L2__law_linked, r1, l0, c1, l1, al, a0, c2, ne, l2, -e_rng1]
theorem alike_part (p q : LPart) : PySem.W.alike (partD p) (partD q) = true := by simp [partD, PySem.W.alike, PySem.W.alikeAll]
theorem sort_parts (ps : List LPart) (h : ps.Pairwise fun a b => a.1 < b.1) : srtD (.list (partsD ps)) = some (.list (partsD ps)) := by
  have ok : okSort (partsD ps) = true := by
    have pl : PyData.plainAll (partsD ps) = true := by
      clear h
      induction ps with
      | nil => rfl
      | cons p ps ih => simp [partsD, partD, PyData.plainAll, PyData.plain] at ih ⊢; exact ih
    unfold okSort
    rw [pl]
    simp only [Bool.true_and, Bool.and_eq_true, List.all_eq_true, decide_eq_true_eq, Bool.or_eq_true, partsD, List.mem_map]
    refine ⟨⟨?_, ?_⟩, .inl ?_⟩
    · rintro d ⟨p, _, rfl⟩; simp [partD, PyData.depth, PyData.depthAll]
    · rintro d ⟨p, _, rfl⟩ e ⟨q, _, rfl⟩; exact alike_part p q
    · rintro d ⟨p, _, rfl⟩; rfl
  rw [e_srtD, if_pos ok]
  congr 2
  refine List.mergeSort_of_pairwise ?_
  unfold partsD
  refine List.pairwise_map.mpr (h.imp fun {a b} hab => ?_)
  unfold leD2
  have : PySem.W.dataLt (partD b) (partD a) = false := by
    unfold partD
    rw [PySem.W.dataLt_tuple, PySem.W.dataLt_cons (by simp [PySem.W.alike]), if_neg (by simp [PyData.eqv]; omega), PySem.W.dataLt_int]
    simp; omega
  rw [this]; rfl
theorem law_linked_ok (n : Nat) (h1 : 1 ≤ n) (h2 : n ≤ 30) (cs : List Cmd) (hl : cs.length ≤ 30) (h : ∀ c ∈ cs, 0 ≤ c.p ∧ c.p < n) : F__law_linked [] [.int n, .tuple (cmdsD cs)] = .ok (.list (partsD (linkedZ (lk n cs) (op n cs) n))) [] := by
  -- the first loop
  obtain ⟨ρ', e, ⟨s5, s6, s7, s11, s12, h6, rfl⟩, _⟩ := forL_rel' (t := .tup [5, 6, 7]) (f := L1__law_linked) Cmd.d
    (fun (a : List Cmd) ρ => ∃ s5 s6 s7 s11 s12, keepS s6 = s6 ∧ ρ = [.fz (.int n), .fz (.tuple (cmdsD cs)), .fz (.list (intsD (marksZ n a))), .ow (.list (intsD (opensJ n a))), .ow (.list (intsD (touchI n a))), s5, s6, s7, .un, .un, .un, s11, s12]) (fun a c => a ++ [c])
    (fun k a => a.length + k ≤ 900) cs 0 [] [.fz (.int n), .fz (.tuple (cmdsD cs)), .fz (.list (intsD (marksZ n []))), .ow (.list (intsD (opensJ n []))), .ow (.list (intsD (touchI n []))), .un, .un, .un, .un, .un, .un, .un, .un] (by
      rintro k a c ρ hc hk ⟨s5, s6, s7, s11, s12, h6, rfl⟩
      obtain ⟨p0, p1⟩ := h c hc
      obtain ⟨t11, t12, e⟩ := lturn n (by omega) (.fz (.tuple (cmdsD cs))) a c (by omega) p0 p1 s11 s12
      exact ⟨_, _, rfl, .inl e, _, _, _, _, _, rfl, rfl⟩) (by
      rintro k a c hc hk
      simp; omega) (by simp; omega) ⟨_, _, _, _, _, rfl, rfl⟩
  have fe : cs.foldl (fun a c => a ++ [c]) [] = cs := by
    have : ∀ (xs a : List Cmd), xs.foldl (fun a c => a ++ [c]) a = a ++ xs := by
      intro xs
      induction xs with
      | nil => intro a; simp
      | cons x xs ih => intro a; rw [List.foldl_cons, ih]; simp
    rw [this, List.nil_append]
  rw [fe] at e
  have e : forL (.tup [5, 6, 7]) L1__law_linked (cmdsD cs) _ = _ := e
  -- the marks of the places touched
  have c2 := lcL_mapT (vs := [6]) (t := .name 6) (fe := C2__law_linked) (ρ := [.fz (.int n), .fz (.tuple (cmdsD cs)), .fz (.list (intsD (marksZ n cs))), .ow (.list (intsD (opensJ n cs))), .fz (.list (intsD (touchI n cs))), s5, s6, s7, .ow (.list []), .un, .un, s11, s12]) (fun t : Int => .int t) (fun t => .int ((st (lk n cs) t.toNat : Nat) : Int)) (touchI n cs) (by
      intro t ht
      have hb : 0 ≤ t ∧ t < n := by
        unfold touchI at ht
        obtain ⟨c, hc, ht⟩ := List.mem_flatMap.mp ht
        have := h c hc
        split at ht
        · rename_i hl
          unfold linkC at hl
          simp only [Bool.and_eq_true, decide_eq_true_eq] at hl
          simp only [List.mem_cons, List.not_mem_nil, or_false] at ht
          omega
        · simp only [List.mem_cons, List.not_mem_nil, or_false] at ht
          omega
      have a := marks_get (n := n) (cs := cs) (q := t.toNat) (by omega)
      rw [show ((t.toNat : Nat) : Int) = t by omega] at a
      exact ⟨[.fz (.int n), .fz (.tuple (cmdsD cs)), .fz (.list (intsD (marksZ n cs))), .ow (.list (intsD (opensJ n cs))), .fz (.list (intsD (touchI n cs))), s5, .fz (.int t), s7, .ow (.list []), .un, .un, s11, s12], by simp [wipeR], by simp [C2__law_linked, a], by simp [backR, h6]⟩)
  have z2 : (touchI n cs).map (fun t => (.int ((st (lk n cs) t.toNat : Nat) : Int) : D)) = intsD ((touchI n cs).map fun t => ((st (lk n cs) t.toNat : Nat) : Int)) := by simp [intsD]
  rw [z2] at c2
  have c2 : lcL [6] (.name 6) mYes C2__law_linked (intsD (touchI n cs)) _ = _ := c2
  have tl := touch_len n
  have tl := tl cs
  have se := e_setD ((touchI n cs).map fun t => ((st (lk n cs) t.toNat : Nat) : Int)) (by simp; omega)
  rw [touch_starts n cs h] at se
  have se : setD (.list (intsD ((touchI n cs).map fun t => ((st (lk n cs) t.toNat : Nat) : Int)))) = some (.list (intsD (natsI (startsOf (lk n cs) (op n cs) n)))) := se
  -- the second loop
  obtain ⟨ρ2, e2, ⟨s9, s10, rfl⟩, _⟩ := forL_rel' (t := .name 9) (f := L2__law_linked) (fun m : Nat => (.int (m : Int) : D))
    (fun (F : List LPart) ρ => ∃ s9 s10, ρ = [.fz (.int n), .fz (.tuple (cmdsD cs)), .fz (.list (intsD (marksZ n cs))), .ow (.list (intsD (opensJ n cs))), .fz (.list (intsD (touchI n cs))), s5, s6, s7, .ow (.list (partsD F)), s9, s10, s11, s12]) (fun F m => F ++ [partOf (lk n cs) (op n cs) n m])
    (fun k F => F.length + k ≤ 900) (startsOf (lk n cs) (op n cs) n) 0 [] [.fz (.int n), .fz (.tuple (cmdsD cs)), .fz (.list (intsD (marksZ n cs))), .ow (.list (intsD (opensJ n cs))), .fz (.list (intsD (touchI n cs))), s5, s6, s7, .ow (.list []), .un, .un, s11, s12] (by
      rintro k F m ρ hm hk ⟨s9, s10, rfl⟩
      obtain ⟨t10, e⟩ := lturn2 n (by omega) cs h (.fz (.tuple (cmdsD cs))) (.fz (.list (intsD (touchI n cs)))) s5 s6 s7 s10 s11 s12 h6 F (by omega) m hm
      exact ⟨_, _, rfl, .inl e, _, _, rfl⟩) (by
      rintro k F m hm hk
      simp; omega) (by
        have := List.length_filter_le (fun m => decide (st (lk n cs) m = m) && (lk n cs m || op n cs m)) (List.range n)
        simp [startsOf]
        simp at this
        omega) ⟨_, _, rfl⟩
  have fe2 : (startsOf (lk n cs) (op n cs) n).foldl (fun F m => F ++ [partOf (lk n cs) (op n cs) n m]) [] = linkedZ (lk n cs) (op n cs) n := by
    have : ∀ (xs : List Nat) (a : List LPart), xs.foldl (fun F m => F ++ [partOf (lk n cs) (op n cs) n m]) a = a ++ xs.map (partOf (lk n cs) (op n cs) n) := by
      intro xs
      induction xs with
      | nil => intro a; simp
      | cons x xs ih => intro a; rw [List.foldl_cons, ih]; simp
    rw [this, List.nil_append, linked_parts]
  rw [fe2] at e2
  have z3 : (startsOf (lk n cs) (op n cs) n).map (fun m : Nat => (.int (m : Int) : D)) = intsD (natsI (startsOf (lk n cs) (op n cs) n)) := by simp [intsD, natsI]
  rw [z3] at e2
  have sp := sort_parts (linkedZ (lk n cs) (op n cs) n) (by
    rw [linked_parts]
    exact List.pairwise_map.mpr ((starts_asc _ _ n).imp fun {a b} hab => hab))
  have lr : lrg1 (.int (n : Int)) = some (.list (intsD (marksZ n []))) := by
    rw [e_lrg1, if_pos (by omega)]
    have : marksZ n [] = natsI (List.range n) := by
      unfold marksZ natsI
      refine List.map_congr_left fun q hq => ?_
      have : st (lk n []) q = q := by
        cases q with
        | zero => rfl
        | succ q => rw [st, if_neg (by simp [lk])]
      rw [this]
    rw [this]
    have := rngD_range2 0 n
    rw [← List.range_eq_range'] at this
    simpa using this
  have tl2 : (intsD (touchI n cs)).length ≤ 1000000 := by simp; omega
  have z4 : (intsD (opensJ n [])) = [] := rfl
  have z5 : (intsD (touchI n [])) = [] := rfl
  rw [z4, z5] at e
  simp only [F__law_linked, M__law_linked, e_runF, e_startR, e_mSeq]
  generalize intsD (touchI n cs) = T at *
  simp [lr, e, tl2, c2, se, e2, sp, -e_lrg1]
end Cap
set_option Elab.async false
set_option linter.all false
set_option maxRecDepth 100000
set_option maxHeartbeats 4000000
namespace Cap
open PySem PySem.Spec L2 Mi
theorem starts_max {p : List Int} {v : Int} {f n s : Nat} (h : (starts p v f n).getLast? = some s) : ∀ k, s < k → k < f + n → p.getD k 0 ≠ v := by
  intro k h1 h2 h3
  obtain ⟨s1, _, _⟩ := starts_some h
  have hm : k ∈ starts p v f n := by
    unfold starts
    refine List.mem_map.mpr ⟨k - f, List.mem_filter.mpr ⟨List.mem_range.mpr (by omega), ?_⟩, by omega⟩
    rw [show f + (k - f) = k by omega, decide_eq_true_eq]
    exact h3
  have asc : (starts p v f n).Pairwise (· < ·) := by
    unfold starts
    exact List.pairwise_map.mpr ((List.pairwise_lt_range.filter _).imp fun h => by omega)
  obtain ⟨A, eA⟩ := List.getLast?_eq_some_iff.mp h
  rw [eA] at asc hm
  rcases List.mem_append.mp hm with hm | hm
  · have := (List.pairwise_append.mp asc).2.2 k hm s (by simp)
    omega
  · have : k = s := by simpa using hm
    omega
theorem ret_last (m : List Int) : ∀ (xs : List Int) (free last : Nat), free ≤ last → m.drop last = xs → ∀ p ∈ retG (0 :: m) free last xs, ∀ k, p.1 < k → k < p.2 → (0 :: m).getD k 0 ≠ m.getD p.2 0
  | [], _, _, _, _, p, hp => by simp [retG] at hp
  | x :: xs, free, last, hf, hd, p, hp => by
    have hd2 : m.drop (last + 1) = xs := by rw [← List.drop_drop, hd]; rfl
    have hx : m.getD last 0 = x := getD_drop hd
    rw [retG] at hp
    by_cases h : x = (0 :: m).getD last 0
    · rw [if_pos h] at hp
      exact ret_last m xs (last + 1) (last + 1) (Nat.le_refl _) hd2 p hp
    · rw [if_neg h] at hp
      cases q : (starts (0 :: m) x free (last - free)).getLast? with
      | some s =>
        rw [q] at hp
        rcases List.mem_cons.mp hp with rfl | hp
        · intro k h1 h2
          rw [show m.getD (s, last).2 0 = x from hx]
          have h1 : s < k := h1
          have h2 : k < last := h2
          exact starts_max q k h1 (by omega)
        · exact ret_last m xs (last + 1) (last + 1) (Nat.le_refl _) hd2 p hp
      | none =>
        rw [q] at hp
        exact ret_last m xs free (last + 1) (by omega) hd2 p hp
theorem plan_ok (m : List Int) (W : Int) (hW : W ≤ 1000000000000) (h : In (-W) W m) : ∀ c ∈ planZ m, c.ok m.length := by
  intro c hc
  have bd : ∀ k : Nat, -W ≤ m.getD k 0 ∧ m.getD k 0 ≤ W ∨ m.getD k 0 = 0 := fun k => by
    by_cases z : k < m.length
    · exact .inl (h _ (by rw [List.getD, List.getElem?_eq_getElem z]; simp))
    · exact .inr (by rw [List.getD, List.getElem?_eq_none (by omega)]; rfl)
  have bd2 : ∀ k : Nat, -W ≤ (0 :: m).getD k 0 ∧ (0 :: m).getD k 0 ≤ W ∨ (0 :: m).getD k 0 = 0 := fun k => by
    cases k with
    | zero => exact .inr rfl
    | succ k => rw [prevS]; exact bd k
  have pl := plan_places m c hc
  rcases List.mem_append.mp hc with hc | hc
  · obtain ⟨p, hp, hc⟩ := List.mem_flatMap.mp hc
    obtain ⟨_, p2, p3, p4, p5⟩ := (retZ_P m).mem hp
    have mx := ret_last m m 0 0 (Nat.le_refl _) rfl p hp
    simp only [onesOf, List.mem_map, List.mem_range'_1] at hc
    obtain ⟨k, hk, rfl⟩ := hc
    have e1 := bd k
    have e2 := bd2 p.1
    refine ⟨pl.1, by have := pl.2; omega, ?_, ?_, ?_⟩
    · show -4000000000000 ≤ m.getD k 0 - (0 :: m).getD p.1 0
      omega
    · show m.getD k 0 - (0 :: m).getD p.1 0 ≤ 4000000000000
      omega
    · show m.getD k 0 - (0 :: m).getD p.1 0 ≠ 0
      intro z
      have e3 : (0 :: m).getD (k + 1) 0 = m.getD p.2 0 := by rw [prevS, ← p5]; omega
      by_cases q : k + 1 < p.2
      · exact mx (k + 1) (by omega) q e3
      · have e : k + 1 = p.2 := by omega
        rw [e] at e3
        exact p4 p.2 (by omega) (Nat.le_refl _) e3.symm
  · simp only [followsOf, List.mem_map, List.mem_filter] at hc
    obtain ⟨k, ⟨hk, _⟩, rfl⟩ := hc
    obtain ⟨k1, k2⟩ := mem_breaksN.mp hk
    have e1 := bd k
    have e2 := bd2 k
    have st := steps_at k1
    refine ⟨pl.1, by have := pl.2; omega, ?_, ?_, ?_⟩
    · show -4000000000000 ≤ (stepsZ m).getD k 0
      omega
    · show (stepsZ m).getD k 0 ≤ 4000000000000
      omega
    · show (stepsZ m).getD k 0 ≠ 0
      omega
theorem ne_parts (ps : List LPart) : neD (.list (partsD ps)) (.list (partsD ps)) = some (.bool false) := by
  have pl : ∀ ps : List LPart, PyData.plainAll (partsD ps) = true := fun ps => by
    induction ps with
    | nil => rfl
    | cons p ps ih => simp [partsD, partD] at ih ⊢; simp [PyData.plainAll, PyData.plain, ih]
  have dp : ∀ ps : List LPart, PyData.depthAll (partsD ps) ≤ 1 := fun ps => by
    induction ps with
    | nil => simp [partsD, PyData.depthAll]
    | cons p ps ih => simp [partsD, partD] at ih ⊢; simp [PyData.depthAll, PyData.depth]; omega
  have ev : ∀ ps : List LPart, PyData.eqvAll (partsD ps) (partsD ps) = true := fun ps => by
    induction ps with
    | nil => rfl
    | cons p ps ih => simp [partsD, partD] at ih ⊢; simp [PyData.eqvAll, PyData.eqv, ih]
  rw [neD_of (by simp [PyData.plain, pl]) (by simp [PyData.plain, pl]) (.inl (by have := dp ps; simp [PyData.depth]; omega))]
  simp [PyData.eqv, ev]
end Cap
set_option Elab.async false
set_option linter.all false
set_option maxRecDepth 100000
set_option maxHeartbeats 2000000
namespace Cap
open PySem PySem.Spec L2 Mi
/-- a price and a row of bases -/
abbrev PR := Int × List Int
def prD (p : PR) : D := .tuple [.int p.1, .tuple (intsD p.2)]
def ltP (x y : PR) : Bool := PySem.W.dataLt (prD x) (prD y)
theorem ltP_yes {x y : PR} (h : ltP x y = true) : x.1 ≤ y.1 := by
  unfold ltP prD at h
  rw [PySem.W.dataLt_pair (by simp [PySem.W.alike]) (by simp only [PySem.W.alike]; exact PySem.W.alike_ints _ _)] at h
  split at h
  · rename_i e
    simp [PyData.eqv] at e
    omega
  · rw [PySem.W.dataLt_int] at h
    simp at h
    omega
theorem ltP_no {x y : PR} (h : ltP x y = false) : y.1 ≤ x.1 := by
  unfold ltP prD at h
  rw [PySem.W.dataLt_pair (by simp [PySem.W.alike]) (by simp only [PySem.W.alike]; exact PySem.W.alike_ints _ _)] at h
  split at h
  · rename_i e
    simp [PyData.eqv] at e
    omega
  · rw [PySem.W.dataLt_int] at h
    simp at h
    omega
def min2P (x y : PR) : PR := if ltP y x then y else x
def minP (x : PR) (xs : List PR) : PR := xs.foldl (fun a y => if ltP y a then y else a) x
theorem min2_le (x y : PR) : (min2P x y).1 ≤ x.1 ∧ (min2P x y).1 ≤ y.1 := by
  unfold min2P
  by_cases h : ltP y x = true
  · rw [if_pos h]; exact ⟨ltP_yes h, Int.le_refl _⟩
  · rw [if_neg h]; exact ⟨Int.le_refl _, ltP_no (by simpa using h)⟩
theorem minP_is : ∀ (xs : List PR) (x : PR), minP x xs ∈ x :: xs ∧ ∀ y ∈ x :: xs, (minP x xs).1 ≤ y.1
  | [], x => ⟨by simp [minP], by simp [minP]⟩
  | y :: xs, x => by
    have e : minP x (y :: xs) = minP (if ltP y x then y else x) xs := rfl
    rw [e]
    obtain ⟨h1, h2⟩ := minP_is xs (if ltP y x then y else x)
    have hx := h2 _ (List.mem_cons_self)
    constructor
    · rcases List.mem_cons.mp h1 with q | q
      · rw [q]; split <;> simp
      · simp [q]
    · intro z hz
      rcases List.mem_cons.mp hz with rfl | hz
      · by_cases c : ltP y z = true
        · rw [if_pos c] at hx ⊢; have := ltP_yes c; omega
        · rw [if_neg c] at hx ⊢; exact hx
      · rcases List.mem_cons.mp hz with rfl | hz
        · by_cases c : ltP z x = true
          · rw [if_pos c] at hx ⊢; exact hx
          · have := ltP_no (x := z) (y := x) (by simpa using c)
            rw [if_neg c] at hx ⊢; omega
        · exact h2 z (by simp [hz])
def lastB (b : List Int) : Int := b.getLast?.getD 0
theorem cost_end (one fol : Int) : ∀ (b : List Int) (prev : Int) (rs : List (Int × Int)) (r : Int × Int) (y : Int), b.length = rs.length → cost one fol prev (rs ++ [r]) (b ++ [y]) = cost one fol prev rs b + fol * chg (b.getLast?.getD prev) y + one * mis r y
  | [], prev, [], r, y, _ => by simp [cost]
  | z :: b, prev, q :: rs, r, y, h => by
    have ih := cost_end one fol b z rs r y (by simpa using h)
    have : (z :: b).getLast?.getD prev = b.getLast?.getD z := by
      cases b with
      | nil => rfl
      | cons w b => simp [List.getLast?_cons_cons]; rw [List.getLast?_eq_some_getLast (by simp)]; rfl
    rw [this]
    simp only [List.cons_append, cost]
    omega
  | [], _, _ :: _, _, _, h => by simp at h
  | _ :: _, _, [], _, _, h => by simp at h
abbrev Tab := List (Int × PR)
def look (T : Tab) (b : Int) : Option PR := (T.find? fun e => decide (e.1 = b)).map (·.2)
def stepT (one fol : Int) (S : List Int) (T : Tab) (r : Int × Int) : Tab := match T with
  | [] => []
  | e :: t => S.map fun b =>
      let c := minP e.2 (t.map (·.2))
      let g := min2P ((look T b).getD (c.1 + fol, c.2)) (c.1 + fol, c.2)
      (b, g.1 + (if r.1 ≤ b ∧ b ≤ r.2 then 0 else one), g.2 ++ [b])
structure TabOk (one fol : Int) (S : List Int) (rs : List (Int × Int)) (T : Tab) : Prop where
  nd : (T.map (·.1)).Nodup
  ne : T ≠ []
  each : ∀ e ∈ T, e.2.2.length = rs.length ∧ cost one fol 0 rs e.2.2 = e.2.1 ∧ lastB e.2.2 = e.1 ∧ ∀ y ∈ e.2.2, y ∈ S
  low : ∀ c : List Int, c.length = rs.length → (∀ y ∈ c, y ∈ S) → ∃ e ∈ T, e.1 = lastB c ∧ e.2.1 ≤ cost one fol 0 rs c
theorem look_some {T : Tab} {b : Int} {p : PR} (h : look T b = some p) : (b, p) ∈ T := by
  unfold look at h
  obtain ⟨e, h1, h2⟩ := Option.map_eq_some_iff.mp h
  have := List.mem_of_find?_eq_some h1
  have k := List.find?_some h1
  simp at k
  subst h2
  rw [← k]
  exact this
theorem look_mem : ∀ {T : Tab}, (T.map (·.1)).Nodup → ∀ {e : Int × PR}, e ∈ T → look T e.1 = some e.2
  | x :: T, nd, e, he => by
    rw [List.map_cons, List.nodup_cons] at nd
    unfold look
    rcases List.mem_cons.mp he with rfl | he
    · rw [List.find?_cons_of_pos (by simp)]; rfl
    · have : ¬ x.1 = e.1 := fun q => nd.1 (by rw [q]; exact List.mem_map_of_mem (f := (·.1)) he)
      rw [List.find?_cons_of_neg (by simpa using this)]
      exact look_mem nd.2 he
theorem look_none {T : Tab} {b : Int} (h : look T b = none) : ∀ e ∈ T, e.1 ≠ b := by
  intro e he q
  unfold look at h
  have := List.find?_eq_none.mp (Option.map_eq_none_iff.mp h) e he
  simp at this
  exact this q
theorem step_ok {one fol : Int} (h1 : 0 ≤ one) (hf : 1 ≤ fol) {S : List Int} (hS : S.Nodup) (hne : S ≠ []) {rs : List (Int × Int)} {T : Tab} (ok : TabOk one fol S rs T) (r : Int × Int) : TabOk one fol S (rs ++ [r]) (stepT one fol S T r) := by
  obtain ⟨nd, ne, each, low⟩ := ok
  cases T with
  | nil => exact absurd rfl ne
  | cons e t =>
    obtain ⟨c, hc⟩ : ∃ c, c = minP e.2 (t.map (·.2)) := ⟨_, rfl⟩
    obtain ⟨c1, c2⟩ := minP_is (t.map (·.2)) e.2
    rw [← hc] at c1 c2
    -- the cheapest stands in the table
    obtain ⟨e0, he0, ec⟩ : ∃ e0 ∈ e :: t, e0.2 = c := by
      rcases List.mem_cons.mp c1 with q | q
      · exact ⟨e, by simp, q.symm⟩
      · obtain ⟨x, hx, q⟩ := List.mem_map.mp q
        exact ⟨x, by simp [hx], q⟩
    have cmin : ∀ x ∈ e :: t, c.1 ≤ x.2.1 := fun x hx => by
      refine c2 x.2 ?_
      rcases List.mem_cons.mp hx with rfl | hx
      · simp
      · exact List.mem_cons_of_mem _ (List.mem_map_of_mem (f := (·.2)) hx)
    have entry : ∀ b, (min2P ((look (e :: t) b).getD (c.1 + fol, c.2)) (c.1 + fol, c.2)).2.length = rs.length ∧ cost one fol 0 rs (min2P ((look (e :: t) b).getD (c.1 + fol, c.2)) (c.1 + fol, c.2)).2 + fol * chg (lastB (min2P ((look (e :: t) b).getD (c.1 + fol, c.2)) (c.1 + fol, c.2)).2) b = (min2P ((look (e :: t) b).getD (c.1 + fol, c.2)) (c.1 + fol, c.2)).1 ∧ (∀ y ∈ (min2P ((look (e :: t) b).getD (c.1 + fol, c.2)) (c.1 + fol, c.2)).2, y ∈ S) := by
      intro b
      obtain ⟨k1, k2, k3, k4⟩ := each e0 he0
      rw [ec] at k1 k2 k3 k4
      have changed : e0.1 ≠ b → (c.2.length = rs.length ∧ cost one fol 0 rs c.2 + fol * chg (lastB c.2) b = c.1 + fol ∧ (∀ y ∈ c.2, y ∈ S)) := fun h => by
        refine ⟨k1, ?_, k4⟩
        rw [k2, k3, chg, if_neg h]; omega
      cases q : look (e :: t) b with
      | none =>
        have := changed (look_none q e0 he0)
        simp only [Option.getD_none, min2P, ite_self]
        exact this
      | some p =>
        have hm := look_some q
        obtain ⟨l1, l2, l3, l4⟩ := each _ hm
        rw [Option.getD_some]
        unfold min2P
        by_cases z : ltP (c.1 + fol, c.2) p = true
        · rw [if_pos z]
          refine changed fun eb => ?_
          have := look_mem nd he0
          rw [eb, q, ec] at this
          cases this
          have := ltP_yes z
          simp only at this
          omega
        · rw [if_neg z]
          refine ⟨l1, ?_, l4⟩
          rw [l2, l3, chg_self]; simp
    have un : stepT one fol S (e :: t) r = S.map fun b => (b, (min2P ((look (e :: t) b).getD (c.1 + fol, c.2)) (c.1 + fol, c.2)).1 + (if r.1 ≤ b ∧ b ≤ r.2 then 0 else one), (min2P ((look (e :: t) b).getD (c.1 + fol, c.2)) (c.1 + fol, c.2)).2 ++ [b]) := by
      rw [hc]; rfl
    have price : ∀ b, one * mis r b = if r.1 ≤ b ∧ b ≤ r.2 then 0 else one := fun b => by unfold mis; split <;> simp
    rw [un]
    refine ⟨?_, ?_, ?_, ?_⟩
    · rw [List.map_map]
      simpa [Function.comp_def] using hS
    · simpa using hne
    · intro x hx
      obtain ⟨b, hb, rfl⟩ := List.mem_map.mp hx
      obtain ⟨k1, k2, k3⟩ := entry b
      refine ⟨by simp [k1], ?_, by simp [lastB], fun y hy => ?_⟩
      · dsimp only
        rw [cost_end _ _ _ _ _ _ _ k1, price]
        unfold lastB at k2
        omega
      · rcases List.mem_append.mp hy with hy | hy
        · exact k3 y hy
        · have : y = b := by simpa using hy
          subst this; exact hb
    · intro w hw hwS
      obtain ⟨w0, b, rfl⟩ : ∃ w0 b, w = w0 ++ [b] := by
        have : w ≠ [] := by intro q; subst q; simp at hw
        exact ⟨w.dropLast, w.getLast this, (List.dropLast_concat_getLast this).symm⟩
      have hw0 : w0.length = rs.length := by simpa using hw
      have hb : b ∈ S := hwS b (by simp)
      obtain ⟨x, hx, x1, x2⟩ := low w0 hw0 fun y hy => hwS y (by simp [hy])
      refine ⟨_, List.mem_map.mpr ⟨b, hb, rfl⟩, by simp [lastB], ?_⟩
      dsimp only
      rw [cost_end _ _ _ _ _ _ _ hw0, price]
      have hm := min2_le ((look (e :: t) b).getD (c.1 + fol, c.2)) (c.1 + fol, c.2)
      have hx2 := cmin x hx
      unfold lastB at x1
      by_cases z : x.1 = b
      · have := look_mem nd hx
        rw [z] at this
        rw [this] at hm
        simp only [Option.getD_some] at hm
        rw [← x1, z, chg_self, this, Option.getD_some]
        omega
      · rw [← x1, chg, if_neg z]
        simp only at hm
        omega
theorem start_ok (one fol : Int) (S : List Int) : TabOk one fol S [] [(0, 0, [])] where
  nd := by simp
  ne := by simp
  each := by simp [cost, lastB]
  low := fun c hc _ => by
    have : c = [] := List.eq_nil_of_length_eq_zero hc
    subst this
    exact ⟨_, List.mem_singleton.mpr rfl, rfl, by simp [cost]⟩
def runT (one fol : Int) (S : List Int) (rs : List (Int × Int)) : Tab := rs.foldl (stepT one fol S) [(0, 0, [])]
theorem run_tab {one fol : Int} (h1 : 0 ≤ one) (hf : 1 ≤ fol) {S : List Int} (hS : S.Nodup) (hne : S ≠ []) (rs : List (Int × Int)) : TabOk one fol S rs (runT one fol S rs) := by
  have gen : ∀ (qs ps : List (Int × Int)) (T : Tab), TabOk one fol S ps T → TabOk one fol S (ps ++ qs) (qs.foldl (stepT one fol S) T) := by
    intro qs
    induction qs with
    | nil => intro ps T h; simpa using h
    | cons q qs ih =>
      intro ps T h
      have := ih (ps ++ [q]) (stepT one fol S T q) (step_ok h1 hf hS hne h q)
      simpa using this
  have := gen rs [] [(0, 0, [])] (start_ok one fol S)
  simpa [runT] using this
def minT : Tab → PR
  | [] => (0, [])
  | e :: t => minP e.2 (t.map (·.2))
def bestZ (one fol : Int) (S : List Int) (rs : List (Int × Int)) : PR := minT (runT one fol S rs)
def maxBelow (S : List Int) (y : Int) : Int := S.foldl (fun a s => if a < s ∧ s ≤ y then s else a) 0
def minAbove (S : List Int) (y : Int) : Int := S.foldl (fun a s => if s < a ∧ y ≤ s then s else a) 0
theorem below_is (y : Int) (hy : 0 ≤ y) : ∀ (S : List Int) (a : Int), 0 ≤ a → a ≤ y → (S.foldl (fun a s => if a < s ∧ s ≤ y then s else a) a = a ∨ S.foldl (fun a s => if a < s ∧ s ≤ y then s else a) a ∈ S) ∧ a ≤ S.foldl (fun a s => if a < s ∧ s ≤ y then s else a) a ∧ S.foldl (fun a s => if a < s ∧ s ≤ y then s else a) a ≤ y ∧ ∀ s ∈ S, s ≤ y → s ≤ S.foldl (fun a s => if a < s ∧ s ≤ y then s else a) a
  | [], a, h0, h1 => ⟨.inl rfl, Int.le_refl _, h1, by simp⟩
  | s :: S, a, h0, h1 => by
    rw [List.foldl_cons]
    by_cases q : a < s ∧ s ≤ y
    · rw [if_pos q]
      obtain ⟨k1, k2, k3, k4⟩ := below_is y hy S s (by omega) q.2
      refine ⟨.inr ?_, by omega, k3, fun x hx hxy => ?_⟩
      · rcases k1 with k1 | k1
        · rw [k1]; simp
        · simp [k1]
      · rcases List.mem_cons.mp hx with rfl | hx
        · exact k2
        · exact k4 x hx hxy
    · rw [if_neg q]
      obtain ⟨k1, k2, k3, k4⟩ := below_is y hy S a h0 h1
      refine ⟨k1.imp id fun z => by simp [z], k2, k3, fun x hx hxy => ?_⟩
      rcases List.mem_cons.mp hx with rfl | hx
      · omega
      · exact k4 x hx hxy
theorem above_is (y : Int) (hy : y ≤ 0) : ∀ (S : List Int) (a : Int), a ≤ 0 → y ≤ a → (S.foldl (fun a s => if s < a ∧ y ≤ s then s else a) a = a ∨ S.foldl (fun a s => if s < a ∧ y ≤ s then s else a) a ∈ S) ∧ S.foldl (fun a s => if s < a ∧ y ≤ s then s else a) a ≤ a ∧ y ≤ S.foldl (fun a s => if s < a ∧ y ≤ s then s else a) a ∧ ∀ s ∈ S, y ≤ s → S.foldl (fun a s => if s < a ∧ y ≤ s then s else a) a ≤ s
  | [], a, h0, h1 => ⟨.inl rfl, Int.le_refl _, h1, by simp⟩
  | s :: S, a, h0, h1 => by
    rw [List.foldl_cons]
    by_cases q : s < a ∧ y ≤ s
    · rw [if_pos q]
      obtain ⟨k1, k2, k3, k4⟩ := above_is y hy S s (by omega) q.2
      refine ⟨.inr ?_, by omega, k3, fun x hx hxy => ?_⟩
      · rcases k1 with k1 | k1
        · rw [k1]; simp
        · simp [k1]
      · rcases List.mem_cons.mp hx with rfl | hx
        · exact k2
        · exact k4 x hx hxy
    · rw [if_neg q]
      obtain ⟨k1, k2, k3, k4⟩ := above_is y hy S a h0 h1
      refine ⟨k1.imp id fun z => by simp [z], k2, k3, fun x hx hxy => ?_⟩
      rcases List.mem_cons.mp hx with rfl | hx
      · omega
      · exact k4 x hx hxy
/-- a base moved to one that is tried -/
def toS (S : List Int) (y : Int) : Int := if 0 ≤ y then maxBelow S y else minAbove S y
theorem toS_in {S : List Int} (h0 : (0 : Int) ∈ S) (y : Int) : toS S y ∈ S := by
  unfold toS
  split
  · rename_i h
    rcases (below_is y h S 0 (Int.le_refl _) h).1 with q | q
    · unfold maxBelow; rw [q]; exact h0
    · exact q
  · rename_i h
    rcases (above_is y (by omega) S 0 (Int.le_refl _) (by omega)).1 with q | q
    · unfold minAbove; rw [q]; exact h0
    · exact q
theorem toS_zero (S : List Int) : toS S 0 = 0 := by
  unfold toS
  rw [if_pos (Int.le_refl _)]
  obtain ⟨_, h2, h3, _⟩ := below_is 0 (Int.le_refl _) S 0 (Int.le_refl _) (Int.le_refl _)
  unfold maxBelow
  omega
/-- the ends of a range are tried, or the range has 0 on that side -/
def EndsIn (S : List Int) (r : Int × Int) : Prop := (r.1 ∈ S ∨ r.1 ≤ 0) ∧ (r.2 ∈ S ∨ 0 ≤ r.2)
theorem toS_mis {S : List Int} {r : Int × Int} (h : EndsIn S r) (y : Int) : mis r (toS S y) ≤ mis r y := by
  by_cases q : r.1 ≤ y ∧ y ≤ r.2
  · have : mis r (toS S y) = 0 := by
      unfold mis
      rw [if_pos]
      unfold toS
      split
      · rename_i hy
        obtain ⟨_, k2, k3, k4⟩ := below_is y hy S 0 (Int.le_refl _) hy
        unfold maxBelow
        refine ⟨?_, by omega⟩
        rcases h.1 with z | z
        · exact k4 _ z q.1
        · omega
      · rename_i hy
        obtain ⟨_, k2, k3, k4⟩ := above_is y (by omega) S 0 (Int.le_refl _) (by omega)
        unfold minAbove
        refine ⟨by omega, ?_⟩
        rcases h.2 with z | z
        · exact k4 _ z q.2
        · omega
    rw [this]
    exact (mis_01 r y).1
  · have : mis r y = 1 := by unfold mis; rw [if_neg q]
    rw [this]
    exact (mis_01 r _).2
theorem toS_cost {one fol : Int} (h1 : 0 ≤ one) (h2 : 0 ≤ fol) {S : List Int} : ∀ (rs : List (Int × Int)) (b : List Int) (prev : Int), (∀ r ∈ rs, EndsIn S r) → cost one fol (toS S prev) rs (b.map (toS S)) ≤ cost one fol prev rs b
  | [], b, prev, _ => by simp [cost]
  | r :: rs, [], prev, _ => by simp [cost]
  | r :: rs, y :: b, prev, h => by
    have ih := toS_cost h1 h2 rs b y fun q hq => h q (by simp [hq])
    have m := Int.mul_le_mul_of_nonneg_left (toS_mis (h r (by simp)) y) h1
    have c : chg (toS S prev) (toS S y) ≤ chg prev y := by
      unfold chg
      by_cases z : prev = y
      · rw [z]; simp
      · rw [if_neg z]; split <;> omega
    have c2 := Int.mul_le_mul_of_nonneg_left c h2
    simp only [List.map_cons, cost]
    omega
theorem best_is {one fol : Int} (h1 : 0 ≤ one) (hf : 1 ≤ fol) {S : List Int} (hS : S.Nodup) (h0 : (0 : Int) ∈ S) (rs : List (Int × Int)) (he : ∀ r ∈ rs, EndsIn S r) :
    IsMin one fol rs (bestZ one fol S rs).1 ∧ (bestZ one fol S rs).2.length = rs.length ∧ cost one fol 0 rs (bestZ one fol S rs).2 = (bestZ one fol S rs).1 := by
  have ok := run_tab h1 hf hS (List.ne_nil_of_mem h0) rs
  unfold bestZ
  cases hT : runT one fol S rs with
  | nil => exact absurd hT ok.ne
  | cons e t =>
    rw [hT] at ok
    have hm : minT (e :: t) = minP e.2 (t.map (·.2)) := rfl
    rw [hm]
    obtain ⟨c1, c2⟩ := minP_is (t.map (·.2)) e.2
    obtain ⟨e0, he0, ec⟩ : ∃ e0 ∈ e :: t, e0.2 = minP e.2 (t.map (·.2)) := by
      rcases List.mem_cons.mp c1 with q | q
      · exact ⟨e, by simp, q.symm⟩
      · obtain ⟨x, hx, q⟩ := List.mem_map.mp q
        exact ⟨x, by simp [hx], q⟩
    obtain ⟨k1, k2, _, _⟩ := ok.each e0 he0
    rw [ec] at k1 k2
    refine ⟨⟨fun b hb => ?_, ⟨_, k1, k2⟩⟩, k1, k2⟩
    have g1 := toS_cost h1 (by omega : 0 ≤ fol) (S := S) rs b 0 he
    rw [toS_zero] at g1
    obtain ⟨x, hx, _, x2⟩ := ok.low (b.map (toS S)) (by simpa using hb) fun y hy => by
      obtain ⟨z, _, rfl⟩ := List.mem_map.mp hy
      exact toS_in h0 z
    have := c2 x.2 (by
      rcases List.mem_cons.mp hx with rfl | hx
      · simp
      · exact List.mem_cons_of_mem _ (List.mem_map_of_mem (f := (·.2)) hx))
    omega
end Cap
set_option Elab.async false
set_option linter.all false
set_option maxRecDepth 100000
set_option maxHeartbeats 4000000
namespace Cap
open PySem PySem.Spec L2 Mi
def tabE (T : Tab) : List (D × D) := T.map fun e => (.int e.1, prD e.2)
def tabD (T : Tab) : D := .dict ((.bool false, .none) :: tabE T)
theorem tabE_len (T : Tab) : (tabE T).length = T.length := by simp [tabE]
theorem find_tab (b : Int) : ∀ T : Tab, findE Mi.keyOf (tabE T) (.inl b) = (look T b).map prD
  | [] => rfl
  | e :: T => by
    have ih := find_tab b T
    unfold findE tabE look at ih ⊢
    by_cases h : e.1 = b
    · rw [List.map_cons, List.find?_cons_of_pos (by simp [Mi.keyOf, h]), List.find?_cons_of_pos (by simpa using h)]; rfl
    · rw [List.map_cons, List.find?_cons_of_neg (by simp [Mi.keyOf, h]), List.find?_cons_of_neg (by simpa using h)]
      exact ih
theorem put_tab (T : Tab) (b : Int) (v : D) (h : b ∉ T.map (·.1)) : putE Mi.keyOf (tabE T) (.int b) (.inl b) v = tabE T ++ [(.int b, v)] := by
  unfold putE
  rw [if_neg]
  rw [List.any_eq_true]
  rintro ⟨e, he, q⟩
  unfold tabE at he
  obtain ⟨x, hx, rfl⟩ := List.mem_map.mp he
  have : x.1 = b := by simpa [Mi.keyOf] using q
  exact h (List.mem_map.mpr ⟨x, hx, this⟩)
theorem tab_keys (T : Tab) : (tabE T).map (·.1) = T.map fun e => (.int e.1 : D) := by simp [tabE]
theorem pr_alike (x y : PR) : PySem.W.alike (prD x) (prD y) = true := by
  unfold prD
  simp only [PySem.W.alike, PySem.W.alikeAll, Bool.true_and, Bool.and_true]
  exact PySem.W.alike_ints _ _
theorem pr_plain (x : PR) : (prD x).plain = true := by simp [prD, PyData.plain, PyData.plainAll, plainAll_ints]
theorem pr_depth (x : PR) : (prD x).depth = 2 := by simp [prD, PyData.depth, PyData.depthAll, depthAll_ints]
theorem okMin_pr (xs : List PR) : okMin (xs.map prD) = true := by
  unfold okMin
  have p : PyData.plainAll (xs.map prD) = true := by
    induction xs with
    | nil => rfl
    | cons x xs ih => simp [PyData.plainAll, pr_plain, ih]
  have d : PyData.depthAll (xs.map prD) ≤ 2 := by
    clear p
    induction xs with
    | nil => simp [PyData.depthAll]
    | cons x xs ih => simp [PyData.depthAll, pr_depth]; omega
  simp only [p, Bool.true_and, Bool.and_eq_true, decide_eq_true_eq, List.all_eq_true, List.mem_map]
  refine ⟨⟨by omega, ?_⟩, ?_⟩
  · rintro a ⟨x, _, rfl⟩ b ⟨y, _, rfl⟩; exact pr_alike x y
  · rintro a ⟨x, _, rfl⟩; rfl
theorem minD_pr : ∀ (xs : List PR) (x : PR), PySem.W.minD (prD x) (xs.map prD) = prD (minP x xs)
  | [], x => rfl
  | y :: xs, x => by
    have ih := minD_pr xs (if ltP y x then y else x)
    unfold PySem.W.minD minP at ih ⊢
    rw [List.map_cons, List.foldl_cons, List.foldl_cons, ← ih]
    congr 1
    unfold ltP
    split <;> rfl
theorem min_list (x : PR) (xs : List PR) : minLD [.list ((x :: xs).map prD)] = some (prD (minP x xs)) := by
  have h := okMin_pr (x :: xs)
  rw [List.map_cons] at h ⊢
  rw [e_minLD, if_pos h, minD_pr]
theorem min_two (x y : PR) : minTD [prD x, prD y] = some (prD (min2P x y)) := by
  have h := okMin_pr [x, y]
  rw [List.map_cons, List.map_cons, List.map_nil] at h
  rw [e_minTD, if_pos h]
  unfold min2P ltP
  split <;> rfl
def rangesD (rs : List (Int × Int)) : List D := rs.map fun r => .tuple [.int r.1, .int r.2]
def entT (one fol : Int) (T : Tab) (c : PR) (r : Int × Int) (b : Int) : Int × PR :=
  (b, (min2P ((look T b).getD (c.1 + fol, c.2)) (c.1 + fol, c.2)).1 + (if r.1 ≤ b ∧ b ≤ r.2 then 0 else one), (min2P ((look T b).getD (c.1 + fol, c.2)) (c.1 + fol, c.2)).2 ++ [b])
theorem bb_turn (x0 x1 : Slot) (one fol : Int) (T : Tab) (c : PR) (r : Int × Int) (A : Tab) (b : Int) (hA : A.length ≤ 1000) (hb : b ∉ A.map (·.1)) (hT : ∀ e ∈ T, e.2.2.length ≤ 1000) (hc : c.2.length ≤ 1000) (s10 s11 s12 : Slot) :
    ∃ t10 t11 t12, L1_best_bases [x0, x1, .fz (.int one), .fz (.int fol), .fz (tabD T), .fz (.int r.1), .fz (.int r.2), .fz (prD c), .ow (tabD A), .fz (.int b), s10, s11, s12] =
      .nx [x0, x1, .fz (.int one), .fz (.int fol), .fz (tabD T), .fz (.int r.1), .fz (.int r.2), .fz (prD c), .ow (tabD (A ++ [entT one fol T c r b])), .fz (.int b), t10, t11, t12] := by
  obtain ⟨g, hg⟩ : ∃ g, g = min2P ((look T b).getD (c.1 + fol, c.2)) (c.1 + fol, c.2) := ⟨_, rfl⟩
  have gl : g.2.length ≤ 1000 := by
    rw [hg]
    unfold min2P
    split
    · exact hc
    · cases q : look T b with
      | none => exact hc
      | some p => exact hT _ (look_some q)
  have m2 := min_two ((look T b).getD (c.1 + fol, c.2)) (c.1 + fol, c.2)
  rw [← hg] at m2
  have gd : ((look T b).map prD).getD (prD (c.1 + fol, c.2)) = prD ((look T b).getD (c.1 + fol, c.2)) := by cases look T b <;> rfl
  have e1 : tabD (A ++ [entT one fol T c r b]) = .dict ((.bool false, .none) :: (tabE A ++ [(.int b, .tuple [.int (g.1 + (if r.1 ≤ b ∧ b ≤ r.2 then 0 else one)), .tuple (intsD g.2 ++ [.int b])])])) := by
    unfold tabD tabE entT
    rw [← hg]
    simp [prD, intsD]
  have pt := put_tab A b (.tuple [.int (g.1 + (if r.1 ≤ b ∧ b ≤ r.2 then 0 else one)), .tuple (intsD g.2 ++ [.int b])]) hb
  have l1 : (tabE A).length < 1000000 := by rw [tabE_len]; omega
  have l2 : g.2.length + 1 ≤ 1000000 := by omega
  refine ⟨.fz (prD (c.1 + fol, c.2)), .fz (.int g.1), .fz (.tuple (intsD g.2)), ?_⟩
  rw [e1]
  have ep : prD (c.1 + fol, c.2) = .tuple [.int (c.1 + fol), .tuple (intsD c.2)] := rfl
  have eg : prD g = .tuple [.int g.1, .tuple (intsD g.2)] := rfl
  have ec : prD c = .tuple [.int c.1, .tuple (intsD c.2)] := rfl
  have ft := find_tab b T
  rw [ep] at gd m2 ⊢
  rw [eg] at m2
  rw [ec]
  unfold tabD
  generalize tabE A = EA at *
  generalize prD ((look T b).getD (c.1 + fol, c.2)) = P at *
  by_cases h1 : r.1 ≤ b
  · by_cases h2 : b ≤ r.2
    · rw [if_pos ⟨h1, h2⟩] at pt ⊢
      rw [Int.add_zero] at pt ⊢
      simp [L1_best_bases, ft, gd, m2, h1, h2, l1, l2, pt]
    · rw [if_neg (fun z => h2 z.2)] at pt ⊢
      simp [L1_best_bases, ft, gd, m2, h1, h2, l1, l2, pt]
  · rw [if_neg (fun z => h1 z.1)] at pt ⊢
    simp [L1_best_bases, ft, gd, m2, h1, l1, l2, pt]
theorem bb_loop (x0 x1 : Slot) (one fol : Int) (T : Tab) (c : PR) (r : Int × Int) (hT : ∀ e ∈ T, e.2.2.length ≤ 1000) (hc : c.2.length ≤ 1000) : ∀ (B A : List Int), (A ++ B).Nodup → (A ++ B).length ≤ 1000 → ∀ (s9 s10 s11 s12 : Slot), keepS s9 = s9 → ∃ t9 t10 t11 t12, keepS t9 = t9 ∧
    forL (.name 9) L1_best_bases (intsD B) [x0, x1, .fz (.int one), .fz (.int fol), .fz (tabD T), .fz (.int r.1), .fz (.int r.2), .fz (prD c), .ow (tabD (A.map (entT one fol T c r))), s9, s10, s11, s12] =
      .nx [x0, x1, .fz (.int one), .fz (.int fol), .fz (tabD T), .fz (.int r.1), .fz (.int r.2), .fz (prD c), .ow (tabD ((A ++ B).map (entT one fol T c r))), t9, t10, t11, t12]
  | [], A, _, _, s9, s10, s11, s12, k9 => ⟨s9, s10, s11, s12, k9, by rw [List.append_nil]; rfl⟩
  | b :: B, A, nd, hl, s9, s10, s11, s12, k9 => by
    have nb : b ∉ (A.map (entT one fol T c r)).map (·.1) := by
      rw [List.map_map]
      intro h
      obtain ⟨a, ha, q⟩ := List.mem_map.mp h
      have q : a = b := q
      subst q
      exact (List.nodup_append.mp nd).2.2 a ha a (by simp) rfl
    obtain ⟨t10, t11, t12, e⟩ := bb_turn x0 x1 one fol T c r (A.map (entT one fol T c r)) b (by simp at hl ⊢; omega) nb hT hc s10 s11 s12
    have ap : A ++ b :: B = (A ++ [b]) ++ B := by simp
    rw [ap] at nd hl ⊢
    obtain ⟨u9, u10, u11, u12, ku, e2⟩ := bb_loop x0 x1 one fol T c r hT hc B (A ++ [b]) nd hl (.fz (.int b)) t10 t11 t12 rfl
    refine ⟨u9, u10, u11, u12, ku, ?_⟩
    rw [intsD_cons]
    simp only [forL, e_putNm, List.set_cons_succ, List.set_cons_zero]
    rw [e]
    rw [List.map_append] at e2
    exact e2
/-- the values of a table, by its keys -/
theorem tab_comp (T : Tab) (nd : (T.map (·.1)).Nodup) (ρ : Rho) (h4 : ρ[4]? = some (.fz (tabD T))) (s9 : Slot) (h9 : ρ[9]? = some s9) (k9 : keepS s9 = s9) : lcL [9] (.name 9) mYes C1_best_bases (T.map fun e => .int e.1) ρ = .ok (T.map fun e => prD e.2) ρ :=
  lcL_mapT (fun e : Int × PR => .int e.1) (fun e => prD e.2) T fun e he => by
    have hl : 9 < ρ.length := (List.getElem?_eq_some_iff.mp h9).1
    have lm := look_mem nd he
    have ft := find_tab e.1 T
    rw [lm] at ft
    refine ⟨ρ.set 9 (.fz (.int e.1)), by simp [wipeR], ?_, ?_⟩
    · have g4 : (ρ.set 9 (.fz (.int e.1)))[4]? = some (.fz (tabD T)) := by rw [List.getElem?_set_ne (by omega)]; exact h4
      have g9 : (ρ.set 9 (.fz (.int e.1)))[9]? = some (.fz (.int e.1)) := List.getElem?_set_self hl
      unfold tabD at g4
      simp only [C1_best_bases, e_mBin, e_mVar, g4, g9, Res.bind_ok, e_dgetD, e_lookK, ft, Option.map_some, Option.bind_some, id, ofOpt_some]
    · simp only [backR, List.getD, h9, Option.getD_some, k9, List.set_set]
      apply List.ext_getElem?
      intro i
      by_cases q : 9 = i
      · subst q; rw [List.getElem?_set_self hl, h9]
      · rw [List.getElem?_set_ne q]
theorem keepS_idem (s : Slot) : keepS (keepS s) = keepS s := by cases s <;> rfl
theorem tab_sizes {one fol : Int} {S : List Int} {rs : List (Int × Int)} {T : Tab} (ok : TabOk one fol S rs T) (hr : rs.length ≤ 100) : ∀ e ∈ T, e.2.2.length ≤ 1000 := fun e he => by
  have := (ok.each e he).1; omega
theorem bb_ranges (one fol : Int) (h1 : 0 ≤ one) (hf : 1 ≤ fol) (S : List Int) (hS : S.Nodup) (hne : S ≠ []) (hl : S.length ≤ 1000) (x0 : Slot) : ∀ (qs ps : List (Int × Int)) (T : Tab) (s5 s6 s7 s8 s9 s10 s11 s12 : Slot), TabOk one fol S ps T → T.length ≤ 1000 → (ps ++ qs).length ≤ 100 → keepS s9 = s9 → ∃ t5 t6 t7 t8 t9 t10 t11 t12, keepS t9 = t9 ∧
    forL (.tup [5, 6]) L2_best_bases (rangesD qs) [x0, .fz (.list (intsD S)), .fz (.int one), .fz (.int fol), .fz (tabD T), s5, s6, s7, s8, s9, s10, s11, s12] =
      .nx [x0, .fz (.list (intsD S)), .fz (.int one), .fz (.int fol), .fz (tabD (qs.foldl (stepT one fol S) T)), t5, t6, t7, t8, t9, t10, t11, t12]
  | [], ps, T, s5, s6, s7, s8, s9, s10, s11, s12, _, _, _, k9 => ⟨s5, s6, s7, s8, s9, s10, s11, s12, k9, rfl⟩
  | q :: qs, ps, T, s5, s6, s7, s8, s9, s10, s11, s12, ok, hT, hp, k9 => by
    cases hTe : T with
    | nil => exact absurd hTe ok.ne
    | cons e t =>
      rw [← hTe]
      have hps : ps.length ≤ 100 := by simp at hp; omega
      have sz := tab_sizes ok hps
      obtain ⟨c, hc⟩ : ∃ c, c = minP e.2 (t.map (·.2)) := ⟨_, rfl⟩
      have hcl : c.2.length ≤ 1000 := by
        have := (minP_is (t.map (·.2)) e.2).1
        rw [← hc] at this
        rcases List.mem_cons.mp this with z | z
        · rw [z]; exact sz e (by rw [hTe]; simp)
        · obtain ⟨x, hx, z⟩ := List.mem_map.mp z
          rw [← z]; exact sz x (by rw [hTe]; simp [hx])
      have comp := tab_comp T ok.nd [x0, .fz (.list (intsD S)), .fz (.int one), .fz (.int fol), .fz (tabD T), .fz (.int q.1), .fz (.int q.2), s7, s8, s9, s10, s11, s12] rfl s9 rfl k9
      have ml := min_list e.2 (t.map (·.2))
      rw [← hc] at ml
      have mm : T.map (fun e => prD e.2) = (e.2 :: t.map (·.2)).map prD := by rw [hTe]; simp
      rw [mm] at comp
      obtain ⟨t9, t10, t11, t12, k9', lo⟩ := bb_loop x0 (.fz (.list (intsD S))) one fol T c q sz hcl S [] (by simpa using hS) (by simpa using hl) s9 s10 s11 s12 k9
      rw [List.nil_append, List.map_nil] at lo
      have st : S.map (entT one fol T c q) = stepT one fol S T q := by rw [hTe, hc]; rfl
      rw [st] at lo
      have ok2 := step_ok h1 hf hS hne ok q
      have T2l : (stepT one fol S T q).length ≤ 1000 := by rw [← st, List.length_map]; exact hl
      obtain ⟨u5, u6, u7, u8, u9, u10, u11, u12, ku, e2⟩ := bb_ranges one fol h1 hf S hS hne hl x0 qs (ps ++ [q]) (stepT one fol S T q) (.fz (.int q.1)) (.fz (.int q.2)) (.fz (prD c)) (.fz (tabD (stepT one fol S T q))) t9 t10 t11 t12 ok2 T2l (by simpa using hp) k9'
      refine ⟨u5, u6, u7, u8, u9, u10, u11, u12, ku, ?_⟩
      have kl : T.length ≤ 1000000 := by omega
      have lo' : forL (.name 9) L1_best_bases (intsD S) [x0, .fz (.list (intsD S)), .fz (.int one), .fz (.int fol), .fz (tabD T), .fz (.int q.1), .fz (.int q.2), .fz (prD c), .ow (.dict [(.bool false, .none)]), s9, s10, s11, s12] = _ := lo
      have turn : L2_best_bases [x0, .fz (.list (intsD S)), .fz (.int one), .fz (.int fol), .fz (tabD T), .fz (.int q.1), .fz (.int q.2), s7, s8, s9, s10, s11, s12] = .nx [x0, .fz (.list (intsD S)), .fz (.int one), .fz (.int fol), .fz (tabD (stepT one fol S T q)), .fz (.int q.1), .fz (.int q.2), .fz (prD c), .fz (tabD (stepT one fol S T q)), t9, t10, t11, t12] := by
        have ks : keysL (tabD T) = some (T.map fun e => .int e.1) := by unfold tabD; rw [e_keysL, tab_keys]
        have kd : ∀ T' : Tab, isDct (tabD T') = true := fun T' => rfl
        simp only [L2_best_bases, e_mSeq]
        generalize tabD T = TD at *
        generalize (e.2 :: t.map (·.2)).map prD = L at *
        generalize hTD2 : tabD (stepT one fol S T q) = TD2 at *
        have kd2 : isDct TD2 = true := by rw [← hTD2]; rfl
        simp [ks, kl, comp, ml, lo', kd2]
      rw [show rangesD (q :: qs) = .tuple [.int q.1, .int q.2] :: rangesD qs from rfl]
      simp only [forL, e_putTup, List.length_cons, List.length_nil, if_true, e_setAll1, e_setAll0, List.set_cons_succ, List.set_cons_zero]
      rw [turn]
      exact e2
end Cap
set_option Elab.async false
set_option linter.all false
set_option maxRecDepth 100000
set_option maxHeartbeats 4000000
namespace Cap
open PySem PySem.Spec L2 Mi
theorem best_bases_ok (one fol : Int) (h1 : 0 ≤ one) (hf : 1 ≤ fol) (S : List Int) (hS : S.Nodup) (hne : S ≠ []) (hl : S.length ≤ 1000) (rs : List (Int × Int)) (hr : rs.length ≤ 100) :
    F_best_bases [] [.list (rangesD rs), .list (intsD S), .int one, .int fol] = .ok (prD (bestZ one fol S rs)) [] := by
  obtain ⟨t5, t6, t7, t8, t9, t10, t11, t12, k9, e⟩ := bb_ranges one fol h1 hf S hS hne hl (.fz (.list (rangesD rs))) rs [] [(0, 0, [])] .un .un .un .un .un .un .un .un (start_ok one fol S) (by simp) (by simpa using hr) rfl
  have ok := run_tab h1 hf hS hne rs
  have e : forL (.tup [5, 6]) L2_best_bases (rangesD rs) _ = .nx [.fz (.list (rangesD rs)), .fz (.list (intsD S)), .fz (.int one), .fz (.int fol), .fz (tabD (runT one fol S rs)), t5, t6, t7, t8, t9, t10, t11, t12] := e
  have td : tabD [(0, 0, [])] = .dict [(.bool false, .none), (.int 0, .tuple [.int 0, .tuple []])] := rfl
  rw [td] at e
  have tl : (runT one fol S rs).length ≤ 1000000 := by
    unfold runT
    cases hq : rs with
    | nil => simp
    | cons r qs =>
      have : ∀ (qs : List (Int × Int)) (T : Tab), T ≠ [] → T.length ≤ 1000 → (qs.foldl (stepT one fol S) T).length ≤ 1000 := by
        intro qs
        induction qs with
        | nil => intro T _ h; exact h
        | cons q qs ih =>
          intro T hT _
          rw [List.foldl_cons]
          cases T with
          | nil => exact absurd rfl hT
          | cons a t =>
            refine ih _ ?_ ?_
            · show S.map _ ≠ []
              simpa using hne
            · show (S.map _).length ≤ 1000
              rw [List.length_map]; exact hl
      have := this (r :: qs) [(0, 0, [])] (by simp) (by simp)
      omega
  unfold bestZ
  cases hT : runT one fol S rs with
  | nil => exact absurd hT ok.ne
  | cons a t =>
    rw [← hT]
    have comp := tab_comp (runT one fol S rs) ok.nd [.fz (.list (rangesD rs)), .fz (.list (intsD S)), .fz (.int one), .fz (.int fol), .fz (tabD (runT one fol S rs)), t5, t6, t7, t8, t9, t10, t11, t12] rfl t9 rfl k9
    have ml := min_list a.2 (t.map (·.2))
    have mm : (runT one fol S rs).map (fun e => prD e.2) = (a.2 :: t.map (·.2)).map prD := by rw [hT]; simp
    rw [mm] at comp
    have mt : minT (runT one fol S rs) = minP a.2 (t.map (·.2)) := by rw [hT]; rfl
    rw [mt]
    have ks : keysL (tabD (runT one fol S rs)) = some ((runT one fol S rs).map fun e => .int e.1) := by unfold tabD; rw [e_keysL, tab_keys]
    simp only [F_best_bases, M_best_bases, e_runF, e_startR, e_mSeq]
    generalize tabD (runT one fol S rs) = TD at *
    generalize (a.2 :: t.map (·.2)).map prD = L at *
    simp [e, ks, tl, comp, ml]
def bestX (one fol : Int) (m : List Int) : PR := bestZ one fol (setI (0 :: m)) (exact m)
theorem lt_nodup {xs : List Int} (h : xs.Pairwise (· < ·)) : xs.Nodup := h.imp fun h => by omega
theorem bestX_is {one fol : Int} (h1 : 0 ≤ one) (hf : 1 ≤ fol) (m : List Int) : IsMin one fol (exact m) (bestX one fol m).1 ∧ (bestX one fol m).2.length = m.length ∧ cost one fol 0 (exact m) (bestX one fol m).2 = (bestX one fol m).1 := by
  have := best_is h1 hf (lt_nodup (setI_lt (0 :: m))) (mem_setI.mpr (by simp)) (exact m) fun r hr => by
    obtain ⟨x, hx, rfl⟩ := List.mem_map.mp hr
    have : x ∈ setI (0 :: m) := mem_setI.mpr (by simp [hx])
    exact ⟨.inl this, .inl this⟩
  simpa [exact, bestX] using this
theorem setI_len (xs : List Int) : (setI xs).length ≤ xs.length := sub_len (lt_nodup (setI_lt xs)) fun x hx => mem_setI.mp hx
theorem exact_bases_ok (one fol : Int) (h1 : 0 ≤ one) (hf : 1 ≤ fol) (m : List Int) (hm : m.length ≤ 60) : F_exact_bases [] [.list (intsD m), .int one, .int fol] = .ok (prD (bestX one fol m)) [] := by
  have sl := setI_len (0 :: m)
  simp only [List.length_cons] at sl
  have se := e_setD (0 :: m) (by simp; omega)
  have se : setD (.list (.int 0 :: intsD m)) = some (.list (intsD (setI (0 :: m)))) := se
  have bb := best_bases_ok one fol h1 hf (setI (0 :: m)) (lt_nodup (setI_lt _)) (List.ne_nil_of_mem (mem_setI.mpr (by simp : (0 : Int) ∈ 0 :: m))) (by omega) (exact m) (by simp [exact]; omega)
  have comp := lcL_1 (v := 4) (fe := C1_exact_bases) (ρ := [.fz (.list (intsD m)), .fz (.int one), .fz (.int fol), .fz (.list (intsD (setI (0 :: m)))), .un]) rfl (fun x : Int => .int x) (fun x => .tuple [.int x, .int x]) m (by intro x _; simp [C1_exact_bases])
  have comp : lcL [4] (.name 4) mYes C1_exact_bases (intsD m) _ = _ := comp
  have re : m.map (fun x => (.tuple [.int x, .int x] : D)) = rangesD (exact m) := by simp [rangesD, exact]
  rw [re] at comp
  have l1 : 1 + m.length ≤ 1000000 := by omega
  have l2 : m.length ≤ 1000000 := by omega
  simp [F_exact_bases, M_exact_bases, l1, l2, se, comp, bb]
  rfl
theorem require_prices_ok (a b : List Int) (one fol : Int) (h : GoodT a) (k : GoodT b) (hl : b.length = a.length) (h1 : 1 ≤ one) (h2 : one ≤ 1000) (h3 : 1 ≤ fol) (h4 : fol ≤ 1000) : F_require_prices [] [.tuple (intsD a), .tuple (intsD b), .int one, .int fol] = .ok .none [] := by
  simp [F_require_prices, M_require_prices, require_rows_ok a b h k hl, h1, h2, h3, h4]
theorem least_price_ok (a b : List Int) (one fol : Int) (h : GoodT a) (k : GoodT b) (hl : b.length = a.length) (h1 : 1 ≤ one) (h2 : one ≤ 1000) (h3 : 1 ≤ fol) (h4 : fol ≤ 1000) : F_least_price [] [.tuple (intsD a), .tuple (intsD b), .int one, .int fol] = .ok (.int (bestX one fol (shiftsZ a b)).1) [] := by
  have ha := h.2.1
  have sl : (shiftsZ a b).length = a.length := by rw [shiftsZ_len]; omega
  have eb := exact_bases_ok one fol (by omega) h3 (shiftsZ a b) (by omega)
  rw [show prD (bestX one fol (shiftsZ a b)) = .tuple [.int (bestX one fol (shiftsZ a b)).1, .tuple (intsD (bestX one fol (shiftsZ a b)).2)] from rfl] at eb
  simp [F_least_price, M_least_price, require_prices_ok a b one fol h k hl h1 h2 h3 h4, shifts_of_ok a b (by omega), eb]
def cheapC (m : List Int) : Int → Nat → List Int → List Cmd
  | _, _, [] => []
  | before, k, b :: r => ((if b ≠ before then [(⟨false, (k : Int), b - before⟩ : Cmd)] else []) ++ (if m.getD k 0 ≠ b then [(⟨true, (k : Int), m.getD k 0 - b⟩ : Cmd)] else [])) ++ cheapC m b (k + 1) r
def costC (one fol : Int) (cs : List Cmd) : Int := (cs.map fun c => if c.one then one else fol).sum
theorem costC_app (one fol : Int) (a b : List Cmd) : costC one fol (a ++ b) = costC one fol a + costC one fol b := by simp [costC, List.sum_append_int]
theorem cheap_cost (one fol : Int) (m : List Int) : ∀ (row : List Int) (before : Int) (k : Nat), k + row.length = m.length → costC one fol (cheapC m before k row) = cost one fol before (exact (m.drop k)) row
  | [], before, k, h => by
    simp only [cheapC, costC, List.map_nil, List.sum_nil]
    cases exact (m.drop k) <;> simp [cost]
  | b :: r, before, k, h => by
    have hk : k < m.length := by simp at h; omega
    rw [cheapC, costC_app, cheap_cost one fol m r b (k + 1) (by simp at h; omega), List.drop_eq_getElem_cons hk]
    simp only [exact, List.map_cons, cost]
    rw [mis_exact]
    have g : m.getD k 0 = m[k] := by simp [List.getD, hk]
    rw [g, costC_app]
    unfold chg
    by_cases h1 : b = before
    · subst h1
      by_cases h2 : m[k] = b
      · simp [h2, costC]
      · simp [h2, costC]
    · have h1' : ¬ before = b := fun q => h1 q.symm
      by_cases h2 : m[k] = b
      · simp [h1, h1', h2, costC]
      · simp [h1, h1', h2, costC]
theorem cheap_eff (m : List Int) (n : Nat) (hn : n = m.length) : ∀ (row : List Int) (before : Int) (k : Nat), k + row.length = m.length → ∀ i, i < n → ((cheapC m before k row).map fun c => eff n c i).sum = if i < k then 0 else m.getD i 0 - before
  | [], before, k, h, i, hi => by
    rw [if_pos (by simp at h; omega)]
    rfl
  | b :: r, before, k, h, i, hi => by
    rw [cheapC, List.map_append, List.sum_append_int, cheap_eff m n hn r b (k + 1) (by simp at h; omega) i hi, List.map_append, List.sum_append_int]
    have e1 : ((if b ≠ before then [(⟨false, (k : Int), b - before⟩ : Cmd)] else []).map fun c => eff n c i).sum = if k ≤ i then b - before else 0 := by
      by_cases q : b = before
      · subst q; simp
      · rw [if_pos q]
        simp only [List.map_cons, List.map_nil, List.sum_cons, List.sum_nil, eff, Cmd.end, Bool.false_eq_true, if_false, Int.toNat_natCast]
        by_cases z : k ≤ i
        · rw [if_pos ⟨z, hi⟩, if_pos z]; omega
        · rw [if_neg (fun y => z y.1), if_neg z]; omega
    have e2 : ((if m.getD k 0 ≠ b then [(⟨true, (k : Int), m.getD k 0 - b⟩ : Cmd)] else []).map fun c => eff n c i).sum = if i = k then m.getD k 0 - b else 0 := by
      by_cases q : m.getD k 0 = b
      · rw [if_neg (by simpa using q), q]; simp
      · rw [if_pos q]
        simp only [List.map_cons, List.map_nil, List.sum_cons, List.sum_nil, eff, Cmd.end, if_true, Int.toNat_natCast]
        by_cases z : i = k
        · subst z; rw [if_pos (by omega), if_pos rfl]; omega
        · rw [if_neg (by omega), if_neg z]; omega
    rw [e1, e2]
    by_cases z : i < k
    · rw [if_neg (by omega), if_neg (by omega), if_pos (by omega), if_pos z]; omega
    · by_cases y : i = k
      · subst y; rw [if_pos (by omega), if_pos rfl, if_pos (by omega), if_neg z]; omega
      · rw [if_pos (by omega), if_neg y, if_neg (by omega), if_neg z]; omega
theorem cheap_leads (a m : List Int) (h : m.length = a.length) (row : List Int) (hr : row.length = m.length) : lastZ a (cheapC m 0 0 row) = movedZ a m := by
  apply ext_getD
  · rw [lastZ_len, moved_len a m h]
  · intro i hi
    rw [lastZ_len] at hi
    rw [lastZ_get _ _ hi, cheap_eff m a.length h.symm row 0 0 (by omega) i (by omega), if_neg (by omega)]
    have z : (a.zip m)[i]? = some (a[i], m[i]'(by omega)) := by
      rw [List.getElem?_eq_getElem (by simp; omega)]
      simp
    simp [movedZ, List.getD, z, hi, show i < m.length by omega]
theorem cheap_places (m : List Int) : ∀ (row : List Int) (before : Int) (k : Nat), ∀ c ∈ cheapC m before k row, (k : Int) ≤ c.p ∧ c.p < k + row.length
  | [], _, _, c, hc => by simp [cheapC] at hc
  | b :: r, before, k, c, hc => by
    rw [cheapC] at hc
    simp only [List.length_cons]
    rcases List.mem_append.mp hc with hc | hc
    · have : c.p = (k : Int) := by
        rcases List.mem_append.mp hc with hc | hc
        · split at hc
          · simp at hc; rw [hc]
          · cases hc
        · split at hc
          · simp at hc; rw [hc]
          · cases hc
      omega
    · have := cheap_places m r b (k + 1) c hc
      omega
theorem cheap_len (m : List Int) : ∀ (row : List Int) (before : Int) (k : Nat), (cheapC m before k row).length ≤ 2 * row.length
  | [], _, _ => by simp [cheapC]
  | b :: r, before, k => by
    have := cheap_len m r b (k + 1)
    rw [cheapC]
    simp only [List.length_append, List.length_cons]
    split <;> split <;> simp only [List.length_cons, List.length_nil] <;> omega
theorem cheap_loop (x0 x1 x2 x3 x5 : Slot) (m : List Int) (hm : m.length ≤ 1000) : ∀ (row : List Int) (before : Int) (k : Nat) (F : List Cmd) (s8 s9 : Slot), k + row.length = m.length → F.length + 2 * row.length ≤ 10000 → ∃ t7 t8 t9,
    forL (.tup [8, 9]) L1_cheapest ((row.zipIdx k).map fun p => .tuple [.int (p.2 : Nat), .int p.1]) [x0, x1, x2, x3, .fz (.list (intsD m)), x5, .ow (.list (cmdsD F)), .fz (.int before), s8, s9] =
      .nx [x0, x1, x2, x3, .fz (.list (intsD m)), x5, .ow (.list (cmdsD (F ++ cheapC m before k row))), t7, t8, t9]
  | [], before, k, F, s8, s9, _, _ => ⟨.fz (.int before), s8, s9, by simp [forL, cheapC]⟩
  | b :: r, before, k, F, s8, s9, h, hF => by
    have hk : k < m.length := by simp at h; omega
    obtain ⟨t7, t8, t9, e⟩ := cheap_loop x0 x1 x2 x3 x5 m hm r b (k + 1) (F ++ ((if b ≠ before then [(⟨false, (k : Int), b - before⟩ : Cmd)] else []) ++ (if m.getD k 0 ≠ b then [(⟨true, (k : Int), m.getD k 0 - b⟩ : Cmd)] else []))) (.fz (.int k)) (.fz (.int b)) (by simp at h; omega) (by
      simp only [List.length_append, List.length_cons] at hF ⊢
      split <;> split <;> simp only [List.length_cons, List.length_nil] <;> omega)
    refine ⟨t7, t8, t9, ?_⟩
    have at1 := atI_ints (xs := m) hk
    have l1 : (cmdsD F).length < 1000000 := by rw [cmdsD_len]; simp at hF; omega
    have l2 : (cmdsD F).length + 1 < 1000000 := by rw [cmdsD_len]; simp at hF; omega
    have turn : L1_cheapest [x0, x1, x2, x3, .fz (.list (intsD m)), x5, .ow (.list (cmdsD F)), .fz (.int before), .fz (.int k), .fz (.int b)] = .nx [x0, x1, x2, x3, .fz (.list (intsD m)), x5, .ow (.list (cmdsD (F ++ ((if b ≠ before then [(⟨false, (k : Int), b - before⟩ : Cmd)] else []) ++ (if m.getD k 0 ≠ b then [(⟨true, (k : Int), m.getD k 0 - b⟩ : Cmd)] else []))))), .fz (.int b), .fz (.int k), .fz (.int b)] := by
      generalize m.getD k 0 = y at *
      by_cases h1 : b = before
      · by_cases h2 : y = b
        · simp [L1_cheapest, at1, h1, h2]
        · rw [if_neg (by simpa using h1), if_pos h2, List.nil_append, cmdsD_app, show cmdsD [(⟨true, (k : Int), y - b⟩ : Cmd)] = [.tuple [.str "one", .int k, .int (y - b)]] from rfl]
          generalize cmdsD F = Q at *
          subst h1
          simp [L1_cheapest, at1, h2, l1]
      · by_cases h2 : y = b
        · rw [if_pos h1, if_neg (by simpa using h2), List.append_nil, cmdsD_app, show cmdsD [(⟨false, (k : Int), b - before⟩ : Cmd)] = [.tuple [.str "following", .int k, .int (b - before)]] from rfl]
          generalize cmdsD F = Q at *
          subst h2
          simp [L1_cheapest, at1, h1, l1]
        · rw [if_pos h1, if_pos h2, ← List.append_assoc, cmdsD_app, cmdsD_app, show cmdsD [(⟨false, (k : Int), b - before⟩ : Cmd)] = [.tuple [.str "following", .int k, .int (b - before)]] from rfl, show cmdsD [(⟨true, (k : Int), y - b⟩ : Cmd)] = [.tuple [.str "one", .int k, .int (y - b)]] from rfl]
          generalize cmdsD F = Q at *
          simp [L1_cheapest, at1, h1, h2, l1, l2]
    rw [List.zipIdx_cons, List.map_cons]
    simp only [forL, e_putTup, List.length_cons, List.length_nil, if_true, e_setAll1, e_setAll0, List.set_cons_succ, List.set_cons_zero]
    rw [turn]
    rw [List.append_assoc F] at e
    rw [cheapC]
    exact e
theorem cheapest_ok (a b : List Int) (one fol : Int) (h : GoodT a) (k : GoodT b) (hl : b.length = a.length) (h1 : 1 ≤ one) (h2 : one ≤ 1000) (h3 : 1 ≤ fol) (h4 : fol ≤ 1000) :
    F_cheapest [] [.tuple (intsD a), .tuple (intsD b), .int one, .int fol] = .ok (.tuple (cmdsD (cheapC (shiftsZ a b) 0 0 (bestX one fol (shiftsZ a b)).2))) [] := by
  have ha := h.2.1
  have sl : (shiftsZ a b).length = a.length := by rw [shiftsZ_len]; omega
  have eb := exact_bases_ok one fol (by omega) h3 (shiftsZ a b) (by omega)
  obtain ⟨_, bl, _⟩ := bestX_is (by omega : 0 ≤ one) h3 (shiftsZ a b)
  rw [show prD (bestX one fol (shiftsZ a b)) = .tuple [.int (bestX one fol (shiftsZ a b)).1, .tuple (intsD (bestX one fol (shiftsZ a b)).2)] from rfl] at eb
  generalize (bestX one fol (shiftsZ a b)).2 = row at *
  obtain ⟨t7, t8, t9, e⟩ := cheap_loop (.fz (.tuple (intsD a))) (.fz (.tuple (intsD b))) (.fz (.int one)) (.fz (.int fol)) (.fz (.tuple (intsD row))) (shiftsZ a b) (by omega) row 0 0 [] .un .un (by omega) (by simp; omega)
  rw [List.nil_append, ← enumD_ints] at e
  have e : forL (.tup [8, 9]) L1_cheapest (enumD (intsD row)) [.fz (.tuple (intsD a)), .fz (.tuple (intsD b)), .fz (.int one), .fz (.int fol), .fz (.list (intsD (shiftsZ a b))), .fz (.tuple (intsD row)), .ow (.list []), .fz (.int 0), .un, .un] = _ := e
  simp only [F_cheapest, M_cheapest, e_runF, e_startR, e_mSeq]
  simp [require_prices_ok a b one fol h k hl h1 h2 h3 h4, shifts_of_ok a b (by omega), eb, e]
theorem law_cost_ok (cs : List Cmd) (one fol : Int) (h : cs.length ≤ 10000) : F__law_cost [] [.tuple (cmdsD cs), .int one, .int fol] = .ok (.int (costC one fol cs)) [] := by
  have e := lcL_1 (v := 3) (fe := C1__law_cost) (ρ := [.fz (.tuple (cmdsD cs)), .fz (.int one), .fz (.int fol), .un]) rfl Cmd.d (fun c => .int (if c.one then one else fol)) cs (by
    intro c _
    cases q : c.one <;> simp [C1__law_cost, Cmd.d, eq_word, q])
  have e3 : cs.map (fun c => PyData.int (if c.one then one else fol)) = intsD (cs.map fun c => if c.one then one else fol) := by simp [intsD]
  rw [e3] at e
  have e : lcL [3] (.name 3) mYes C1__law_cost (cmdsD cs) _ = _ := e
  have l : (cmdsD cs).length ≤ 1000000 := by rw [cmdsD_len]; omega
  simp [F__law_cost, M__law_cost, l, e]
  rfl
end Cap
set_option Elab.async false
set_option linter.all false
set_option maxRecDepth 100000
set_option maxHeartbeats 4000000
namespace Cap
open PySem PySem.Spec L2 Mi
abbrev Wish := Option (Int × Int)
def wishD : Wish → D
  | none => .none
  | some p => .tuple [.int p.1, .int p.2]
def wishesD (ws : List Wish) : List D := ws.map wishD
def WishOk : Wish → Prop
  | none => True
  | some p => -1000000000000 ≤ p.1 ∧ p.1 ≤ p.2 ∧ p.2 ≤ 1000000000000
def rngW (t : Int) : Wish → Int × Int
  | none => (-1000000000000 - t, 1000000000000 - t)
  | some p => (p.1 - t, p.2 - t)
def rangesW (ts : List Int) (ws : List Wish) : List (Int × Int) := (ts.zip ws).map fun p => rngW p.1 p.2
def endsW (t : Int) : Wish → List Int
  | none => []
  | some p => [p.1 - t, p.2 - t]
def basesW (ts : List Int) (ws : List Wish) : List Int := 0 :: (ts.zip ws).flatMap fun p => endsW p.1 p.2
theorem is_range_ok (a b : Int) (h1 : -1000000000000 ≤ a) (h2 : a ≤ b) (h3 : b ≤ 1000000000000) : F_is_range [] [.tuple [.int a, .int b]] = .ok (.bool true) [] := by
  have comp := lcL_1 (v := 1) (fe := C1_is_range) (ρ := [.fz (.tuple [.int a, .int b]), .un]) rfl (fun x : Int => .int x) (fun x => .bool (decide (-1000000000000 ≤ x) && decide (x ≤ 1000000000000))) [a, b] (by intro x _; simp [C1_is_range])
  have comp : lcL [1] (.name 1) mYes C1_is_range [.int a, .int b] _ = _ := comp
  have e1 : a ≤ 1000000000000 := by omega
  have e2 : -1000000000000 ≤ b := by omega
  have al : allD [.list ([a, b].map fun x => (.bool (decide (-1000000000000 ≤ x) && decide (x ≤ 1000000000000)) : D))] = some (.bool true) := by
    have := e_allB ([a, b].map fun x => decide (-1000000000000 ≤ x) && decide (x ≤ 1000000000000))
    rw [List.map_map] at this
    rw [show (fun x : Int => (.bool (decide (-1000000000000 ≤ x) && decide (x ≤ 1000000000000)) : D)) = PyData.bool ∘ fun x => decide (-1000000000000 ≤ x) && decide (x ≤ 1000000000000) from rfl, this]
    simp [h1, e1, e2, h3]
  generalize [a, b].map (fun x => (.bool (decide (-1000000000000 ≤ x) && decide (x ≤ 1000000000000)) : D)) = B at *
  simp [F_is_range, M_is_range, comp, al, h2]
theorem is_range_turned (a b : Int) (h1 : -1000000000000 ≤ b) (h2 : b < a) (h3 : a ≤ 1000000000000) : F_is_range [] [.tuple [.int a, .int b]] = .ok (.bool false) [] := by
  have comp := lcL_1 (v := 1) (fe := C1_is_range) (ρ := [.fz (.tuple [.int a, .int b]), .un]) rfl (fun x : Int => .int x) (fun x => .bool (decide (-1000000000000 ≤ x) && decide (x ≤ 1000000000000))) [a, b] (by intro x _; simp [C1_is_range])
  have comp : lcL [1] (.name 1) mYes C1_is_range [.int a, .int b] _ = _ := comp
  have e1 : b ≤ 1000000000000 := by omega
  have e2 : -1000000000000 ≤ a := by omega
  have al : allD [.list ([a, b].map fun x => (.bool (decide (-1000000000000 ≤ x) && decide (x ≤ 1000000000000)) : D))] = some (.bool true) := by
    have := e_allB ([a, b].map fun x => decide (-1000000000000 ≤ x) && decide (x ≤ 1000000000000))
    rw [List.map_map] at this
    rw [show (fun x : Int => (.bool (decide (-1000000000000 ≤ x) && decide (x ≤ 1000000000000)) : D)) = PyData.bool ∘ fun x => decide (-1000000000000 ≤ x) && decide (x ≤ 1000000000000) from rfl, this]
    simp [h1, e1, e2, h3]
  generalize [a, b].map (fun x => (.bool (decide (-1000000000000 ≤ x) && decide (x ≤ 1000000000000)) : D)) = B at *
  have h2' : ¬ a ≤ b := by omega
  simp [F_is_range, M_is_range, comp, al, h2']
theorem is_range_int (a : Int) : F_is_range [] [.int a] = .ok (.bool false) [] := by simp [F_is_range, M_is_range]
/-- what require_wishes asks of one wish -/
def WishIs (d : D) (b : Bool) : Prop := ∀ ρ : Rho, ρ[2]? = some (.fz d) → C1_require_wishes ρ = .ok (.bool b) ρ
theorem wish_ok {w : Wish} (h : WishOk w) : WishIs (wishD w) true := by
  intro ρ h2
  cases w with
  | none => simp [C1_require_wishes, h2, wishD, isNoneD]
  | some p =>
    have := is_range_ok p.1 p.2 h.1 h.2.1 h.2.2
    rw [wishD] at h2
    simp [C1_require_wishes, h2, this, isNoneD]
theorem wish_turned : WishIs (.tuple [.int 2, .int 1]) false := by
  intro ρ h2
  have := is_range_turned 2 1 (by omega) (by omega) (by omega)
  simp [C1_require_wishes, h2, this, isNoneD]
theorem wish_int : WishIs (.int 0) false := by
  intro ρ h2
  simp [C1_require_wishes, h2, is_range_int, isNoneD]
theorem wishes_comp (x0 x1 : Slot) (ps : List (D × Bool)) (h : ∀ p ∈ ps, WishIs p.1 p.2) : lcL [2] (.name 2) mYes C1_require_wishes (ps.map (·.1)) [x0, x1, .un] = .ok ((ps.map (·.2)).map .bool) [x0, x1, .un] := by
  have := lcL_1 (v := 2) (fe := C1_require_wishes) (ρ := [x0, x1, .un]) rfl (fun p : D × Bool => p.1) (fun p => .bool p.2) ps (fun p hp => h p hp _ rfl)
  rw [this, List.map_map]
  rfl
theorem require_wishes_ok (ts : List Int) (ws : List Wish) (h : GoodT ts) (hl : ws.length = ts.length) (hw : ∀ w ∈ ws, WishOk w) : F_require_wishes [] [.tuple (intsD ts), .tuple (wishesD ws)] = .ok .none [] := by
  have c := wishes_comp (.fz (.tuple (intsD ts))) (.fz (.tuple (wishesD ws))) (ws.map fun w => (wishD w, true)) (by
    intro p hp
    obtain ⟨w, hw', rfl⟩ := List.mem_map.mp hp
    exact wish_ok (hw w hw'))
  rw [List.map_map, show ((fun p : D × Bool => p.1) ∘ fun w => (wishD w, true)) = wishD from rfl] at c
  have c : lcL [2] (.name 2) mYes C1_require_wishes (wishesD ws) _ = _ := c
  have al := e_allB ((ws.map fun w => (wishD w, true)).map (·.2))
  have tr : ((ws.map fun w => (wishD w, true)).map (·.2)).all id = true := by simp
  rw [tr] at al
  generalize (ws.map fun w => (wishD w, true)).map (·.2) = B at *
  have wl : (wishesD ws).length = ts.length := by simp [wishesD, hl]
  have tl : ts.length ≤ 1000000 := by have := h.2.1; omega
  simp [F_require_wishes, M_require_wishes, require_times_ok ts h, wl, tl, c, al]
theorem require_wishes_kind (ts : List Int) (d : D) (h : GoodT ts) (hd : isiD .tuple d = some (.bool false)) : F_require_wishes [] [.tuple (intsD ts), d] = .ex "InvalidWishes" [] := by
  simp [F_require_wishes, M_require_wishes, require_times_ok ts h, hd]
theorem require_wishes_len (ts : List Int) (ds : List D) (h : GoodT ts) (hl : ds.length ≠ ts.length) : F_require_wishes [] [.tuple (intsD ts), .tuple ds] = .ex "InvalidWishes" [] := by
  have : ¬ (ds.length : Int) = ts.length := by omega
  simp [F_require_wishes, M_require_wishes, require_times_ok ts h, this]
theorem require_wishes_bad (ts : List Int) (ps : List (D × Bool)) (h : GoodT ts) (hl : ps.length = ts.length) (hp : ∀ p ∈ ps, WishIs p.1 p.2) (hb : (ps.map (·.2)).all id = false) : F_require_wishes [] [.tuple (intsD ts), .tuple (ps.map (·.1))] = .ex "InvalidWishes" [] := by
  have c := wishes_comp (.fz (.tuple (intsD ts))) (.fz (.tuple (ps.map (·.1)))) ps hp
  have al := e_allB (ps.map (·.2))
  rw [hb] at al
  have wl : (ps.map (·.1)).length = ts.length := by simp [hl]
  generalize ps.map (·.2) = B at *
  generalize ps.map (·.1) = P at *
  have tl : ts.length ≤ 1000000 := by have := h.2.1; omega
  simp [F_require_wishes, M_require_wishes, require_times_ok ts h, wl, tl, c, al]
theorem bo_turn (x0 x1 : Slot) (t : Int) (w : Wish) (R : List (Int × Int)) (B : List Int) (hR : R.length ≤ 1000) (hB : B.length ≤ 1000) (s8 s9 s10 s11 : Slot) : ∃ t8 t9 t10 t11, keepS t10 = t10 ∧ keepS t11 = t11 ∧
    L1_best_of [x0, x1, .ow (.list (rangesD R)), .ow (.list (intsD B)), .fz (.int t), .fz (wishD w), .un, .un, s8, s9, s10, s11, .un] =
      .nx [x0, x1, .ow (.list (rangesD (R ++ [rngW t w]))), .ow (.list (intsD (B ++ endsW t w))), .fz (.int t), .fz (wishD w), .un, .un, t8, t9, t10, t11, .un] := by
  have l1 : (rangesD R).length < 1000000 := by simp [rangesD]; omega
  have l2 : (intsD B).length + 2 ≤ 1000000 := by simp; omega
  have e1 : rangesD (R ++ [rngW t w]) = rangesD R ++ [.tuple [.int (rngW t w).1, .int (rngW t w).2]] := by simp [rangesD]
  rw [e1, intsD_app]
  generalize rangesD R = RD at *
  generalize intsD B = BD at *
  cases w with
  | none =>
    refine ⟨.fz (.int (-1000000000000)), .fz (.int 1000000000000), .fz (.int (-1000000000000 - t)), .fz (.int (1000000000000 - t)), rfl, rfl, ?_⟩
    simp [L1_best_of, wishD, rngW, endsW, l1, isNoneD, intsD]
  | some p =>
    refine ⟨.fz (.int p.1), .fz (.int p.2), .fz (.int (p.1 - t)), .fz (.int (p.2 - t)), rfl, rfl, ?_⟩
    simp [L1_best_of, wishD, rngW, endsW, l1, l2, isNoneD, intsD]
theorem bo_loop (x0 x1 : Slot) : ∀ (ps : List (Int × Wish)) (R : List (Int × Int)) (B : List Int) (s4 s5 s8 s9 s10 s11 : Slot), R.length + ps.length ≤ 1000 → B.length + 2 * ps.length ≤ 1000 → keepS s10 = s10 → keepS s11 = s11 → ∃ t4 t5 t8 t9 t10 t11, keepS t10 = t10 ∧ keepS t11 = t11 ∧
    forL (.tup [4, 5]) L1_best_of (ps.map fun p => .tuple [.int p.1, wishD p.2]) [x0, x1, .ow (.list (rangesD R)), .ow (.list (intsD B)), s4, s5, .un, .un, s8, s9, s10, s11, .un] =
      .nx [x0, x1, .ow (.list (rangesD (R ++ ps.map fun p => rngW p.1 p.2))), .ow (.list (intsD (B ++ ps.flatMap fun p => endsW p.1 p.2))), t4, t5, .un, .un, t8, t9, t10, t11, .un]
  | [], R, B, s4, s5, s8, s9, s10, s11, _, _, k1, k2 => ⟨s4, s5, s8, s9, s10, s11, k1, k2, by simp [forL]⟩
  | p :: ps, R, B, s4, s5, s8, s9, s10, s11, h1, h2, _, _ => by
    have el : (endsW p.1 p.2).length ≤ 2 := by cases p.2 <;> simp [endsW]
    obtain ⟨t8, t9, t10, t11, k1, k2, e⟩ := bo_turn x0 x1 p.1 p.2 R B (by simp at h1; omega) (by simp at h2; omega) s8 s9 s10 s11
    obtain ⟨u4, u5, u8, u9, u10, u11, l1, l2, e2⟩ := bo_loop x0 x1 ps (R ++ [rngW p.1 p.2]) (B ++ endsW p.1 p.2) (.fz (.int p.1)) (.fz (wishD p.2)) t8 t9 t10 t11 (by simp at h1 ⊢; omega) (by simp at h2 ⊢; omega) k1 k2
    refine ⟨u4, u5, u8, u9, u10, u11, l1, l2, ?_⟩
    rw [List.map_cons, List.map_cons, List.flatMap_cons]
    simp only [forL, e_putTup, List.length_cons, List.length_nil, if_true, e_setAll1, e_setAll0, List.set_cons_succ, List.set_cons_zero]
    rw [e]
    simpa using e2
def bestW (ts : List Int) (ws : List Wish) : PR := bestZ 1 1 (setI (basesW ts ws)) (rangesW ts ws)
def clampZ (r : Int × Int) (b : Int) : Int := max r.1 (min r.2 b)
def shiftW (ts : List Int) (ws : List Wish) : List Int := ((rangesW ts ws).zip (bestW ts ws).2).map fun p => clampZ p.1 p.2
theorem zip_wishes (ts : List Int) (ws : List Wish) : zipD (intsD ts) (wishesD ws) = (ts.zip ws).map fun p => .tuple [.int p.1, wishD p.2] := by
  simp [zipD, intsD, wishesD, List.zip_map, Function.comp_def]
theorem basesW_len (ts : List Int) (ws : List Wish) (h : ts.length ≤ 30) : (basesW ts ws).length ≤ 61 := by
  have : ∀ ps : List (Int × Wish), (ps.flatMap fun p => endsW p.1 p.2).length ≤ 2 * ps.length := by
    intro ps
    induction ps with
    | nil => simp
    | cons p ps ih =>
      have el : (endsW p.1 p.2).length ≤ 2 := by cases p.2 <;> simp [endsW]
      rw [List.flatMap_cons, List.length_append, List.length_cons]
      omega
  have := this (ts.zip ws)
  have : (ts.zip ws).length ≤ 30 := by rw [List.length_zip]; omega
  unfold basesW
  rw [List.length_cons]; omega
theorem rangesW_len (ts : List Int) (ws : List Wish) (h : ws.length = ts.length) : (rangesW ts ws).length = ts.length := by
  unfold rangesW; rw [List.length_map, List.length_zip]; omega
theorem bestW_is (ts : List Int) (ws : List Wish) (h : GoodT ts) (hl : ws.length = ts.length) : IsMin 1 1 (rangesW ts ws) (bestW ts ws).1 ∧ (bestW ts ws).2.length = ts.length ∧ cost 1 1 0 (rangesW ts ws) (bestW ts ws).2 = (bestW ts ws).1 := by
  have := best_is (one := 1) (fol := 1) (by omega) (by omega) (lt_nodup (setI_lt (basesW ts ws))) (mem_setI.mpr (by simp [basesW])) (rangesW ts ws) fun r hr => by
    obtain ⟨p, hp, rfl⟩ := List.mem_map.mp hr
    have ht := h.2.2 p.1 (List.of_mem_zip hp).1
    cases hw : p.2 with
    | none => exact ⟨.inr (by simp only [rngW]; omega), .inr (by simp only [rngW]; omega)⟩
    | some q =>
      have m : ∀ x ∈ [q.1 - p.1, q.2 - p.1], x ∈ setI (basesW ts ws) := fun x hx => by
        rw [mem_setI]
        unfold basesW
        refine List.mem_cons_of_mem _ (List.mem_flatMap.mpr ⟨p, hp, ?_⟩)
        rw [hw]; exact hx
      exact ⟨.inl (m _ (by simp [rngW])), .inl (m _ (by simp [rngW]))⟩
  rw [rangesW_len ts ws hl] at this
  exact this
theorem best_of_ok (ts : List Int) (ws : List Wish) (h : GoodT ts) (hl : ws.length = ts.length) : F_best_of [] [.tuple (intsD ts), .tuple (wishesD ws)] = .ok (.tuple [.int (bestW ts ws).1, .list (intsD (shiftW ts ws))]) [] := by
  have h30 := h.2.1
  obtain ⟨t4, t5, t8, t9, t10, t11, k10, k11, e⟩ := bo_loop (.fz (.tuple (intsD ts))) (.fz (.tuple (wishesD ws))) (ts.zip ws) [] [0] .un .un .un .un .un .un (by simp; omega) (by simp; omega) rfl rfl
  rw [← zip_wishes, List.nil_append] at e
  have e : forL (.tup [4, 5]) L1_best_of (zipD (intsD ts) (wishesD ws)) [.fz (.tuple (intsD ts)), .fz (.tuple (wishesD ws)), .ow (.list []), .ow (.list [.int 0]), .un, .un, .un, .un, .un, .un, .un, .un, .un] = .nx [.fz (.tuple (intsD ts)), .fz (.tuple (wishesD ws)), .ow (.list (rangesD (rangesW ts ws))), .ow (.list (intsD (basesW ts ws))), t4, t5, .un, .un, t8, t9, t10, t11, .un] := e
  have bl := basesW_len ts ws h30
  have se := e_setD (basesW ts ws) (by omega)
  have se : setD (.list (intsD (basesW ts ws))) = some (.list (intsD (setI (basesW ts ws)))) := se
  have sl := setI_len (basesW ts ws)
  have rl := rangesW_len ts ws hl
  have bb := best_bases_ok 1 1 (by omega) (by omega) (setI (basesW ts ws)) (lt_nodup (setI_lt _)) (List.ne_nil_of_mem (mem_setI.mpr (by simp [basesW] : (0 : Int) ∈ basesW ts ws))) (by omega) (rangesW ts ws) (by omega)
  have bb : F_best_bases [] [.list (rangesD (rangesW ts ws)), .list (intsD (setI (basesW ts ws))), .int 1, .int 1] = .ok (.tuple [.int (bestW ts ws).1, .tuple (intsD (bestW ts ws).2)]) [] := bb
  obtain ⟨_, row, _⟩ := bestW_is ts ws h hl
  have zz : zipD (rangesD (rangesW ts ws)) (intsD (bestW ts ws).2) = ((rangesW ts ws).zip (bestW ts ws).2).map fun p => .tuple [.tuple [.int p.1.1, .int p.1.2], .int p.2] := by
    simp [zipD, intsD, rangesD, List.zip_map, Function.comp_def]
  have comp := lcL_mapT (vs := [10, 11, 12]) (t := .nst [10, 11] [12]) (fe := C1_best_of) (ρ := [.fz (.tuple (intsD ts)), .fz (.tuple (wishesD ws)), .fz (.list (rangesD (rangesW ts ws))), .fz (.list (intsD (basesW ts ws))), t4, t5, .fz (.int (bestW ts ws).1), .fz (.tuple (intsD (bestW ts ws).2)), t8, t9, t10, t11, .un]) (fun p : (Int × Int) × Int => .tuple [.tuple [.int p.1.1, .int p.1.2], .int p.2]) (fun p => .int (clampZ p.1 p.2)) ((rangesW ts ws).zip (bestW ts ws).2) (fun p _ =>
    ⟨[.fz (.tuple (intsD ts)), .fz (.tuple (wishesD ws)), .fz (.list (rangesD (rangesW ts ws))), .fz (.list (intsD (basesW ts ws))), t4, t5, .fz (.int (bestW ts ws).1), .fz (.tuple (intsD (bestW ts ws).2)), t8, t9, .fz (.int p.1.1), .fz (.int p.1.2), .fz (.int p.2)], by simp [wipeR], by simp [C1_best_of, clampZ], by simp [backR, k10, k11]; simp [keepS]⟩)
  rw [← zz] at comp
  have sh : ((rangesW ts ws).zip (bestW ts ws).2).map (fun p => (.int (clampZ p.1 p.2) : D)) = intsD (shiftW ts ws) := by simp [shiftW, intsD]
  rw [sh] at comp
  have zl : (zipD (rangesD (rangesW ts ws)) (intsD (bestW ts ws).2)).length ≤ 1000000 := by rw [zz, List.length_map, List.length_zip]; omega
  simp only [F_best_of, M_best_of, e_runF, e_startR, e_mSeq]
  generalize hq : zipD (intsD ts) (wishesD ws) = Z0 at *
  simp [hq, e, se, bb, zl, comp]
theorem fewest_wish_ok (ts : List Int) (ws : List Wish) (h : GoodT ts) (hl : ws.length = ts.length) (hw : ∀ w ∈ ws, WishOk w) : F_fewest_wish [] [.tuple (intsD ts), .tuple (wishesD ws)] = .ok (.int (bestW ts ws).1) [] := by
  simp [F_fewest_wish, M_fewest_wish, require_wishes_ok ts ws h hl hw, best_of_ok ts ws h hl]
theorem shiftW_len (ts : List Int) (ws : List Wish) (h : GoodT ts) (hl : ws.length = ts.length) : (shiftW ts ws).length = ts.length := by
  obtain ⟨_, row, _⟩ := bestW_is ts ws h hl
  have := rangesW_len ts ws hl
  unfold shiftW
  rw [List.length_map, List.length_zip]; omega
theorem best_times_ok (ts : List Int) (ws : List Wish) (h : GoodT ts) (hl : ws.length = ts.length) (hw : ∀ w ∈ ws, WishOk w) : F_best_times [] [.tuple (intsD ts), .tuple (wishesD ws)] = .ok (.tuple (intsD (movedZ ts (shiftW ts ws)))) [] := by
  have comp := lcL_2 (v := 2) (w := 3) (fe := C1_best_times) (ρ := [.fz (.tuple (intsD ts)), .fz (.tuple (wishesD ws)), .un, .un]) (by omega) rfl rfl (fun p : Int × Int => .int p.1) (fun p => .int p.2) (fun p => .int (p.1 + p.2)) (ts.zip (shiftW ts ws)) (by intro p _; simp [C1_best_times])
  rw [← zipD_ints] at comp
  have e : (ts.zip (shiftW ts ws)).map (fun p => (.int (p.1 + p.2) : D)) = intsD (movedZ ts (shiftW ts ws)) := by simp [movedZ, intsD]
  rw [e] at comp
  have zl : (zipD (intsD ts) (intsD (shiftW ts ws))).length ≤ 1000000 := by
    rw [zipD_ints, List.length_map, List.length_zip]
    have := h.2.1
    omega
  have ml : (movedZ ts (shiftW ts ws)).length ≤ 1000000 := by
    rw [moved_len _ _ (shiftW_len ts ws h hl)]
    have := h.2.1
    omega
  simp [F_best_times, M_best_times, require_wishes_ok ts ws h hl hw, best_of_ok ts ws h hl, zl, comp, ml]
def InR (rs : List (Int × Int)) (m : List Int) : Prop := m.length = rs.length ∧ ∀ p ∈ rs.zip m, p.1.1 ≤ p.2 ∧ p.2 ≤ p.1.2
theorem InR.cons {r : Int × Int} {rs : List (Int × Int)} {x : Int} {m : List Int} (h : InR (r :: rs) (x :: m)) : (r.1 ≤ x ∧ x ≤ r.2) ∧ InR rs m :=
  ⟨h.2 (r, x) (by simp), by have := h.1; simpa using this, fun p hp => h.2 p (by simp [hp])⟩
theorem inR_cost {one fol : Int} (h1 : 0 ≤ one) : ∀ (rs : List (Int × Int)) (m b : List Int) (prev : Int), InR rs m → cost one fol prev rs b ≤ cost one fol prev (exact m) b
  | [], m, b, prev, h => by
    have : m = [] := List.eq_nil_of_length_eq_zero h.1
    subst this
    exact Int.le_refl _
  | r :: rs, [], b, prev, h => by have := h.1; simp at this
  | r :: rs, x :: m, [], prev, h => by simp [exact, cost]
  | r :: rs, x :: m, y :: b, prev, h => by
    obtain ⟨a, k⟩ := h.cons
    have ih := inR_cost (fol := fol) h1 rs m b y k
    have mm : mis r y ≤ mis (x, x) y := by
      rw [mis_exact]
      by_cases q : x = y
      · subst q; unfold mis; rw [if_pos a, if_pos rfl]; omega
      · rw [if_neg q]; exact (mis_01 r y).2
    have := Int.mul_le_mul_of_nonneg_left mm h1
    simp only [exact, List.map_cons, cost] at ih ⊢
    omega
theorem clamp_cost {one fol : Int} : ∀ (rs : List (Int × Int)) (b : List Int) (prev : Int), (∀ r ∈ rs, r.1 ≤ r.2) → b.length = rs.length → cost one fol prev (exact ((rs.zip b).map fun p => clampZ p.1 p.2)) b = cost one fol prev rs b
  | [], b, prev, _, h => by
    have : b = [] := List.eq_nil_of_length_eq_zero h
    subst this
    rfl
  | r :: rs, [], prev, _, h => by simp at h
  | r :: rs, y :: b, prev, hr, h => by
    have ih := clamp_cost (one := one) (fol := fol) rs b y (fun q hq => hr q (by simp [hq])) (by simpa using h)
    have h0 := hr r (by simp)
    have mm : mis (clampZ r y, clampZ r y) y = mis r y := by
      rw [mis_exact]
      unfold clampZ mis
      by_cases q : r.1 ≤ y ∧ y ≤ r.2
      · rw [if_pos q, if_pos (by omega)]
      · rw [if_neg q, if_neg (by omega)]
    simp only [List.zip_cons_cons, exact, List.map_cons, cost] at ih ⊢
    rw [mm, ih]
theorem clamp_in (rs : List (Int × Int)) (b : List Int) (hr : ∀ r ∈ rs, r.1 ≤ r.2) (h : b.length = rs.length) : InR rs ((rs.zip b).map fun p => clampZ p.1 p.2) := by
  refine ⟨by simp [h], fun p hp => ?_⟩
  obtain ⟨i, hi⟩ := List.mem_iff_getElem?.mp hp
  obtain ⟨h1, h2⟩ := List.getElem?_zip_eq_some.mp hi
  rw [List.getElem?_map] at h2
  obtain ⟨q, q1, q2⟩ := Option.map_eq_some_iff.mp h2
  obtain ⟨q3, q4⟩ := List.getElem?_zip_eq_some.mp q1
  rw [h1] at q3
  have e : p.1 = q.1 := by simpa using q3
  have := hr p.1 (List.mem_of_getElem? h1)
  rw [← q2, ← e]
  unfold clampZ
  omega
theorem ranges_ok (ts : List Int) (ws : List Wish) (hw : ∀ w ∈ ws, WishOk w) : ∀ r ∈ rangesW ts ws, r.1 ≤ r.2 := by
  intro r hr
  obtain ⟨p, hp, rfl⟩ := List.mem_map.mp hr
  have := hw p.2 (List.of_mem_zip hp).2
  cases h : p.2 with
  | none => simp only [rngW]; omega
  | some q => rw [h] at this; have := this.2.1; simp only [rngW]; omega
theorem shiftW_in (ts : List Int) (ws : List Wish) (h : GoodT ts) (hl : ws.length = ts.length) (hw : ∀ w ∈ ws, WishOk w) : InR (rangesW ts ws) (shiftW ts ws) := by
  obtain ⟨_, row, _⟩ := bestW_is ts ws h hl
  exact clamp_in _ _ (ranges_ok ts ws hw) (by rw [row, rangesW_len ts ws hl])
theorem shiftW_fewest (ts : List Int) (ws : List Wish) (h : GoodT ts) (hl : ws.length = ts.length) (hw : ∀ w ∈ ws, WishOk w) : fewestZ (shiftW ts ws) = (bestW ts ws).1 := by
  obtain ⟨mn, row, c⟩ := bestW_is ts ws h hl
  refine (fewest_min (shiftW ts ws)).uniq ⟨fun b hb => ?_, ⟨(bestW ts ws).2, ?_, ?_⟩⟩
  · have := inR_cost (one := 1) (fol := 1) (by omega) _ _ b 0 (shiftW_in ts ws h hl hw)
    have := mn.low b (by rw [hb]; simp [exact, shiftW_len ts ws h hl, rangesW_len ts ws hl])
    omega
  · simp [exact, shiftW_len ts ws h hl, row]
  · rw [← c]
    exact clamp_cost _ _ 0 (ranges_ok ts ws hw) (by rw [row, rangesW_len ts ws hl])
theorem wish_low (ts : List Int) (ws : List Wish) (m : List Int) (h : GoodT ts) (hl : ws.length = ts.length) (hm : InR (rangesW ts ws) m) : (bestW ts ws).1 ≤ fewestZ m := by
  obtain ⟨mn, _, _⟩ := bestW_is ts ws h hl
  obtain ⟨b, hb, e⟩ := (fewest_min m).got
  have := inR_cost (one := 1) (fol := 1) (by omega) _ _ b 0 hm
  have := mn.low b (by rw [hb]; simp [exact, hm.1])
  omega
/-- what a wish says of a time -/
def goodW (t : Int) : Wish → Prop
  | none => -1000000000000 ≤ t ∧ t ≤ 1000000000000
  | some p => p.1 ≤ t ∧ t ≤ p.2
theorem inR_moved (ts : List Int) (ws : List Wish) (m : List Int) (hl : ws.length = ts.length) (hm : m.length = ts.length) : InR (rangesW ts ws) m ↔ ∀ p ∈ (movedZ ts m).zip ws, goodW p.1 p.2 := by
  have rl := rangesW_len ts ws hl
  have ml := moved_len ts m hm
  have key : ∀ (i : Nat) (t x : Int) (w : Wish), ts[i]? = some t → m[i]? = some x → ws[i]? = some w → (((rangesW ts ws).zip m)[i]? = some (rngW t w, x) ∧ ((movedZ ts m).zip ws)[i]? = some (t + x, w)) ∧ (((rngW t w).1 ≤ x ∧ x ≤ (rngW t w).2) ↔ goodW (t + x) w) := by
    intro i t x w h1 h2 h3
    refine ⟨⟨List.getElem?_zip_eq_some.mpr ⟨?_, h2⟩, List.getElem?_zip_eq_some.mpr ⟨?_, h3⟩⟩, ?_⟩
    · unfold rangesW
      rw [List.getElem?_map, show (ts.zip ws)[i]? = some (t, w) from List.getElem?_zip_eq_some.mpr ⟨h1, h3⟩]; rfl
    · unfold movedZ
      rw [List.getElem?_map, show (ts.zip m)[i]? = some (t, x) from List.getElem?_zip_eq_some.mpr ⟨h1, h2⟩]; rfl
    · cases w with
      | none => simp only [rngW, goodW]; omega
      | some p => simp only [rngW, goodW]; omega
  have at_ : ∀ i, i < ts.length → ∃ t x w, ts[i]? = some t ∧ m[i]? = some x ∧ ws[i]? = some w := fun i hi =>
    ⟨ts[i], m[i]'(by omega), ws[i]'(by omega), List.getElem?_eq_getElem hi, List.getElem?_eq_getElem (by omega), List.getElem?_eq_getElem (by omega)⟩
  constructor
  · intro h p hp
    obtain ⟨i, hi⟩ := List.mem_iff_getElem?.mp hp
    have il : i < ts.length := by
      have := (List.getElem?_eq_some_iff.mp hi).1
      rw [List.length_zip] at this; omega
    obtain ⟨t, x, w, h1, h2, h3⟩ := at_ i il
    obtain ⟨⟨k1, k2⟩, k3⟩ := key i t x w h1 h2 h3
    rw [k2] at hi
    cases hi
    exact k3.mp (h.2 _ (List.mem_of_getElem? k1))
  · intro h
    refine ⟨by omega, fun p hp => ?_⟩
    obtain ⟨i, hi⟩ := List.mem_iff_getElem?.mp hp
    have il : i < ts.length := by
      have := (List.getElem?_eq_some_iff.mp hi).1
      rw [List.length_zip] at this; omega
    obtain ⟨t, x, w, h1, h2, h3⟩ := at_ i il
    obtain ⟨⟨k1, k2⟩, k3⟩ := key i t x w h1 h2 h3
    rw [k1] at hi
    cases hi
    exact k3.mpr (h _ (List.mem_of_getElem? k2))
theorem best_good (ts : List Int) (ws : List Wish) (h : GoodT ts) (hl : ws.length = ts.length) (hw : ∀ w ∈ ws, WishOk w) : GoodT (movedZ ts (shiftW ts ws)) ∧ ∀ p ∈ (movedZ ts (shiftW ts ws)).zip ws, goodW p.1 p.2 := by
  have sl := shiftW_len ts ws h hl
  have ml := moved_len ts _ sl
  have good := (inR_moved ts ws _ hl sl).mp (shiftW_in ts ws h hl hw)
  refine ⟨⟨by rw [ml]; exact h.1, by rw [ml]; exact h.2.1, fun x hx => ?_⟩, good⟩
  obtain ⟨i, hi⟩ := List.mem_iff_getElem?.mp hx
  have il : i < ws.length := by have := (List.getElem?_eq_some_iff.mp hi).1; omega
  have g := good (x, ws[i]) (List.mem_of_getElem? (List.getElem?_zip_eq_some.mpr ⟨hi, List.getElem?_eq_getElem il⟩))
  have w := hw ws[i] (List.getElem_mem il)
  revert g w
  generalize ws[i] = wi
  intro g w
  cases wi with
  | none => exact g
  | some p =>
    have := w.1
    have := w.2.2
    have := g.1
    have := g.2
    dsimp only at *
    omega
end Cap
set_option Elab.async false
set_option linter.all false
set_option maxRecDepth 100000
set_option maxHeartbeats 4000000
namespace Cap
open PySem PySem.Spec L2 Mi
/-- a comprehension that draws: item by item -/
theorem lcL_pair {α β : Type} {vs : List Nat} {t : Tgt} {fe : Rho → Res D} (g : α → D) (h : β → D) (I : Rho → Prop) (R : α → β → Prop) : ∀ (xs : List α) (ρ : Rho), I ρ →
    (∀ x ∈ xs, ∀ ρ, I ρ → ∃ ρ1 ρ2 y, t.put (g x) (wipeR vs ρ) = some ρ1 ∧ fe ρ1 = .ok (h y) ρ2 ∧ R x y ∧ I (backR vs ρ ρ2)) → ∃ bs ρ', lcL vs t mYes fe (xs.map g) ρ = .ok (bs.map h) ρ' ∧ I ρ' ∧ bs.length = xs.length ∧ ∀ p ∈ xs.zip bs, R p.1 p.2
  | [], ρ, hi, _ => ⟨[], ρ, rfl, hi, rfl, by simp⟩
  | x :: xs, ρ, hi, hh => by
    obtain ⟨ρ1, ρ2, y, e1, e2, e3, e4⟩ := hh x (by simp) ρ hi
    obtain ⟨bs, ρ', h1, h2, h3, h4⟩ := lcL_pair g h I R xs _ e4 fun x hx => hh x (by simp [hx])
    refine ⟨y :: bs, ρ', ?_, h2, by simp [h3], fun p hp => ?_⟩
    · simp [lcL, e1, e2, h1]
    · rw [List.zip_cons_cons] at hp
      rcases List.mem_cons.mp hp with rfl | hp
      · exact e3
      · exact h4 p hp
/-- a wish near a time -/
def Near (t : Int) : Wish → Prop
  | none => True
  | some p => t - 10 ≤ p.1 ∧ p.1 ≤ t ∧ t ≤ p.2 ∧ p.2 ≤ t + 10
theorem around_ok {b : D} (hb : IsBag b) (t w : Int) (hw : 0 < w) (hw2 : w ≤ 10) : ∃ (W : Wish) (b' : D), F__law_around [b] [.int t, .int w] = .ok (wishD W) [b'] ∧ IsBag b' ∧ Near t W := by
  obtain ⟨r1, b1, e1, hb1, p1, q1⟩ := take_ok hb w hw (by omega)
  obtain ⟨r2, b2, e2, hb2, p2, q2⟩ := take_ok hb1 w hw (by omega)
  obtain ⟨x, hx, b3, e3, hb3⟩ := of_ok hb2 [.none, .tuple [.int (t - r1), .int (t + r2)], .tuple [.int (t - r1), .int (t + r2)], .tuple [.int t, .int t]] (by simp) (by simp)
  have hW : ∃ W : Wish, x = wishD W ∧ Near t W := by
    simp only [List.mem_cons, List.not_mem_nil, or_false] at hx
    rcases hx with rfl | rfl | rfl | rfl
    · exact ⟨none, rfl, trivial⟩
    · exact ⟨some (t - r1, t + r2), rfl, by simp only [Near]; omega⟩
    · exact ⟨some (t - r1, t + r2), rfl, by simp only [Near]; omega⟩
    · exact ⟨some (t, t), rfl, by simp only [Near]; omega⟩
  obtain ⟨W, rfl, hN⟩ := hW
  exact ⟨W, b3, by simp [F__law_around, M__law_around, e1, e2, e3], hb3, hN⟩
theorem best_in {one fol : Int} (h1 : 0 ≤ one) (hf : 1 ≤ fol) {S : List Int} (hS : S.Nodup) (h0 : (0 : Int) ∈ S) (rs : List (Int × Int)) : ∀ y ∈ (bestZ one fol S rs).2, y ∈ S := by
  have ok := run_tab h1 hf hS (List.ne_nil_of_mem h0) rs
  unfold bestZ
  cases hT : runT one fol S rs with
  | nil => exact absurd hT ok.ne
  | cons e t =>
    rw [hT] at ok
    have hm : minT (e :: t) = minP e.2 (t.map (·.2)) := rfl
    rw [hm]
    obtain ⟨c1, _⟩ := minP_is (t.map (·.2)) e.2
    rcases List.mem_cons.mp c1 with q | q
    · rw [q]; exact (ok.each e (by simp)).2.2.2
    · obtain ⟨x, hx, q⟩ := List.mem_map.mp q
      rw [← q]; exact (ok.each x (by simp [hx])).2.2.2
theorem bestW_in (ts : List Int) (ws : List Wish) : ∀ y ∈ (bestW ts ws).2, y ∈ basesW ts ws := fun y hy =>
  mem_setI.mp (best_in (by omega) (by omega) (lt_nodup (setI_lt _)) (mem_setI.mpr (by simp [basesW])) _ y hy)
/-- the wished shifts are small where the wishes are near -/
theorem shiftW_small (ts : List Int) (ws : List Wish) (A B : Int) (hA : A ≤ 0) (hB : 0 ≤ B) (h : ∀ p ∈ ts.zip ws, ∀ q, p.2 = some q → A ≤ q.1 - p.1 ∧ q.1 - p.1 ≤ B ∧ A ≤ q.2 - p.1 ∧ q.2 - p.1 ≤ B) (hT : ∀ t ∈ ts, -1000000000000 - t ≤ A ∧ B ≤ 1000000000000 - t) : In A B (shiftW ts ws) := by
  have hb : ∀ y ∈ basesW ts ws, A ≤ y ∧ y ≤ B := by
    intro y hy
    unfold basesW at hy
    rcases List.mem_cons.mp hy with rfl | hy
    · exact ⟨hA, hB⟩
    · obtain ⟨p, hp, hy⟩ := List.mem_flatMap.mp hy
      cases hq : p.2 with
      | none => rw [hq] at hy; simp [endsW] at hy
      | some q =>
        have := h p hp q hq
        rw [hq] at hy
        simp only [endsW, List.mem_cons, List.not_mem_nil, or_false] at hy
        omega
  intro x hx
  unfold shiftW at hx
  obtain ⟨p, hp, rfl⟩ := List.mem_map.mp hx
  have h1 := hb p.2 (bestW_in ts ws p.2 (List.of_mem_zip hp).2)
  obtain ⟨z, hz, e⟩ := List.mem_map.mp (List.of_mem_zip hp).1
  have ht := hT z.1 (List.of_mem_zip hz).1
  rw [← e]
  unfold clampZ
  cases hq : z.2 with
  | none => simp only [rngW]; omega
  | some q => have := h z hz q hq; simp only [rngW]; omega
theorem zeros_in : ∀ (rs : List (Int × Int)), InR rs (List.replicate rs.length 0) → cost 1 1 0 rs (List.replicate rs.length 0) = 0
  | [], _ => rfl
  | r :: rs, h => by
    rw [List.length_cons, List.replicate_succ] at h ⊢
    obtain ⟨a, k⟩ := h.cons
    have ih := zeros_in rs k
    simp only [cost, chg_self, ih]
    unfold mis
    rw [if_pos a]
    omega
theorem cost_zero : ∀ (rs : List (Int × Int)) (b : List Int), b.length = rs.length → cost 1 1 0 rs b ≤ 0 → b = List.replicate rs.length 0
  | [], b, h, _ => by
    have : b = [] := List.eq_nil_of_length_eq_zero h
    subst this; rfl
  | r :: rs, [], h, _ => by simp at h
  | r :: rs, y :: b, h, hc => by
    simp only [cost] at hc
    have nn := cost_nonneg (one := 1) (fol := 1) (by omega) (by omega) y rs b
    have m := (mis_01 r y).1
    have c := chg_01 0 y
    have hy : y = 0 := by
      by_cases q : (0 : Int) = y
      · exact q.symm
      · rw [chg, if_neg q] at hc; omega
    subst hy
    rw [chg_self] at hc
    rw [List.length_cons, List.replicate_succ, ← cost_zero rs b (by simpa using h) (by omega)]
theorem still_wish (ts : List Int) (ws : List Wish) (h : GoodT ts) (hl : ws.length = ts.length) (hz : InR (rangesW ts ws) (List.replicate ts.length 0)) : (bestW ts ws).1 = 0 ∧ movedZ ts (shiftW ts ws) = ts := by
  obtain ⟨mn, row, c⟩ := bestW_is ts ws h hl
  have rl := rangesW_len ts ws hl
  have z := zeros_in (rangesW ts ws) (by rw [rl]; exact hz)
  have le := mn.low (List.replicate (rangesW ts ws).length 0) (by simp)
  rw [z] at le
  have nn := cost_nonneg (one := 1) (fol := 1) (by omega) (by omega) 0 (rangesW ts ws) (bestW ts ws).2
  rw [c] at nn
  have rz := cost_zero (rangesW ts ws) (bestW ts ws).2 (by rw [row, rl]) (by rw [c]; exact le)
  refine ⟨by omega, ?_⟩
  have sz : shiftW ts ws = List.replicate ts.length 0 := by
    unfold shiftW
    rw [rz, rl]
    apply List.ext_getElem?
    intro i
    by_cases hi : i < ts.length
    · obtain ⟨r, hr⟩ : ∃ r, (rangesW ts ws)[i]? = some r := ⟨_, List.getElem?_eq_getElem (by rw [rl]; exact hi)⟩
      have e0 : (List.replicate ts.length (0 : Int))[i]? = some 0 := by simp [hi]
      have zz : ((rangesW ts ws).zip (List.replicate ts.length (0 : Int)))[i]? = some (r, 0) := List.getElem?_zip_eq_some.mpr ⟨hr, e0⟩
      have b := hz.2 _ (List.mem_of_getElem? zz)
      rw [List.getElem?_map, zz, e0]
      have : clampZ r 0 = 0 := by
        have b1 : r.1 ≤ 0 := b.1
        have b2 : 0 ≤ r.2 := b.2
        unfold clampZ; omega
      simp [this]
    · rw [List.getElem?_eq_none (by rw [List.length_map, List.length_zip, rl]; simp; omega), List.getElem?_eq_none (by simp; omega)]
  rw [sz]
  apply ext_getD
  · rw [moved_len _ _ (by simp)]
  · intro i hi
    rw [moved_len _ _ (by simp)] at hi
    have zt : (ts.zip (List.replicate ts.length (0 : Int)))[i]? = some (ts[i], 0) := List.getElem?_zip_eq_some.mpr ⟨List.getElem?_eq_getElem hi, by simp [hi]⟩
    simp [movedZ, List.getD, zt, hi]
def Looser (w w' : Wish) : Prop := match w' with
  | none => True
  | some q => ∃ p, w = some p ∧ p.1 - 2 ≤ q.1 ∧ q.1 ≤ p.1 ∧ p.2 ≤ q.2 ∧ q.2 ≤ p.2 + 2
theorem loose_turn {b : D} (hb : IsBag b) (x1 x2 x3 : Slot) (w : Wish) (L : List Wish) (hL : L.length ≤ 1000) (s7 : Slot) : ∃ b' W t7,
    L1__law_loose_right [.ow b, x1, x2, x3, .ow (.list (wishesD L)), .fz (wishD w), .un, s7, .un] = .nx [.ow b', x1, x2, x3, .ow (.list (wishesD (L ++ [W]))), .fz (wishD w), .un, t7, .un] ∧ IsBag b' ∧ Looser w W := by
  have l1 : (wishesD L).length < 1000000 := by simp [wishesD]; omega
  have ap : ∀ W : Wish, wishesD (L ++ [W]) = wishesD L ++ [wishD W] := fun W => by simp [wishesD]
  cases w with
  | none =>
    obtain ⟨x, hx, b1, e1, hb1⟩ := of_ok hb [.none, .none] (by simp) (by simp)
    have : x = .none := by simpa using hx
    subst this
    refine ⟨b1, none, .fz .none, ?_, hb1, trivial⟩
    rw [ap]
    generalize wishesD L = Q at *
    simp [L1__law_loose_right, wishD, isNoneD, e1, l1]
  | some p =>
    obtain ⟨r1, b1, e1, hb1, p1, q1⟩ := take_ok hb 3 (by omega) (by omega)
    obtain ⟨r2, b2, e2, hb2, p2, q2⟩ := take_ok hb1 3 (by omega) (by omega)
    obtain ⟨x, hx, b3, e3, hb3⟩ := of_ok hb2 [.none, .tuple [.int (p.1 - r1), .int (p.2 + r2)]] (by simp) (by simp)
    have hW : ∃ W : Wish, x = wishD W ∧ Looser (some p) W := by
      simp only [List.mem_cons, List.not_mem_nil, or_false] at hx
      rcases hx with rfl | rfl
      · exact ⟨none, rfl, trivial⟩
      · exact ⟨some (p.1 - r1, p.2 + r2), rfl, p, rfl, by dsimp only; omega, by dsimp only; omega, by dsimp only; omega, by dsimp only; omega⟩
    obtain ⟨W, rfl, hN⟩ := hW
    refine ⟨b3, W, .fz (.tuple [.int (p.1 - r1), .int (p.2 + r2)]), ?_, hb3, hN⟩
    rw [ap]
    generalize wishesD L = Q at *
    simp [L1__law_loose_right, wishD, isNoneD, e1, e2, e3, l1]
theorem loose_loop (x1 x2 x3 : Slot) : ∀ (ws : List Wish) {b : D} (hb : IsBag b) (L : List Wish) (s5 s7 : Slot), L.length + ws.length ≤ 1000 → ∃ b' Ls t5 t7,
    forL (.name 5) L1__law_loose_right (wishesD ws) [.ow b, x1, x2, x3, .ow (.list (wishesD L)), s5, .un, s7, .un] = .nx [.ow b', x1, x2, x3, .ow (.list (wishesD (L ++ Ls))), t5, .un, t7, .un] ∧ IsBag b' ∧ Ls.length = ws.length ∧ ∀ p ∈ ws.zip Ls, Looser p.1 p.2
  | [], b, hb, L, s5, s7, _ => ⟨b, [], s5, s7, by simp [forL, wishesD], hb, rfl, by simp⟩
  | w :: ws, b, hb, L, s5, s7, h => by
    obtain ⟨b1, W, t7, e, hb1, hW⟩ := loose_turn hb x1 x2 x3 w L (by simp at h; omega) s7
    obtain ⟨b2, Ls, u5, u7, e2, hb2, k1, k2⟩ := loose_loop x1 x2 x3 ws hb1 (L ++ [W]) (.fz (wishD w)) t7 (by simp at h ⊢; omega)
    refine ⟨b2, W :: Ls, u5, u7, ?_, hb2, by simp [k1], fun p hp => ?_⟩
    · rw [show wishesD (w :: ws) = wishD w :: wishesD ws from rfl]
      simp only [forL, e_putNm, List.set_cons_succ, List.set_cons_zero]
      rw [e]
      simpa using e2
    · rw [List.zip_cons_cons] at hp
      rcases List.mem_cons.mp hp with rfl | hp
      · exact hW
      · exact k2 p hp
theorem loose_good {w w' : Wish} (h : Looser w w') (hw : WishOk w) {t : Int} (g : goodW t w) : goodW t w' := by
  cases w' with
  | none =>
    cases w with
    | none => exact g
    | some p =>
      have := hw.1; have := hw.2.2; have := g.1; have := g.2
      simp only [goodW]; omega
  | some q =>
    obtain ⟨p, rfl, h1, h2, h3, h4⟩ := h
    have := g.1; have := g.2
    simp only [goodW]; omega
end Cap
set_option Elab.async false
set_option linter.all false
set_option maxRecDepth 100000
set_option maxHeartbeats 4000000
namespace Lk10
open PySem PySem.Spec L2 Mi Cap
def gdB (s t : Int) : Wish → Bool
  | none => true
  | some p => decide (p.1 ≤ t + s) && decide (t + s ≤ p.2)
theorem good_fn (s t : Int) (w : Wish) : F__law_good [] [.int s, .int t, wishD w] = .ok (.bool (gdB s t w)) [] := by
  cases w with
  | none => simp [F__law_good, M__law_good, wishD, isNoneD, gdB]
  | some p =>
    by_cases h : p.1 ≤ t + s
    · simp [F__law_good, M__law_good, wishD, isNoneD, gdB, h]
    · simp [F__law_good, M__law_good, wishD, isNoneD, gdB, h]
section
variable (ts : List Int) (ws : List Wish)
def at_ (i : Nat) : Int × Wish := (ts.getD i 0, ws.getD i none)
def gdI (s : Int) (i : Nat) : Bool := gdB s (ts.getD i 0) (ws.getD i none)
def cntG (s : Int) (low high : Nat) : Int := (((List.range' low (high - low)).filter fun i => gdI ts ws s i).length : Nat)
def lowW (t : Int) : Wish → List Int
  | none => []
  | some p => [p.1 - t]
def cand (f : Bool) (low high : Nat) : List Int := 0 :: if f then [] else (List.range' low (high - low)).flatMap fun i => lowW (ts.getD i 0) (ws.getD i none)
def common (f : Bool) (low high : Nat) : Int := maxOf ((cand ts ws f low high).map fun s => cntG ts ws s low high)
end
theorem wish_at {ws : List Wish} {i : Nat} (h : i < ws.length) : atI (wishesD ws) (i : Int) = some (wishD (ws.getD i none)) := Cap.atI_nat (by
  unfold wishesD
  rw [List.getElem?_map, List.getElem?_eq_getElem h]
  simp [List.getD, h])
theorem cand_loop (ts : List Int) (ws : List Wish) (hl : ws.length = ts.length) (x2 x3 x4 : Slot) : ∀ (d j : Nat) (O : List Int) (s8 : Slot), j + d ≤ ts.length → O.length + d ≤ 1000 → keepS s8 = s8 → ∃ t8, keepS t8 = t8 ∧
    forL (.name 8) L1__law_common ((List.range' j d).map fun i => .int (i : Nat)) [.fz (.tuple (intsD ts)), .fz (.tuple (wishesD ws)), x2, x3, x4, .ow (.list (intsD O)), .un, .un, s8] =
      .nx [.fz (.tuple (intsD ts)), .fz (.tuple (wishesD ws)), x2, x3, x4, .ow (.list (intsD (O ++ (List.range' j d).flatMap fun i => lowW (ts.getD i 0) (ws.getD i none)))), .un, .un, t8]
  | 0, j, O, s8, _, _, k8 => ⟨s8, k8, by simp [forL]⟩
  | d + 1, j, O, s8, h, hO, _ => by
    have wa := wish_at (ws := ws) (i := j) (by omega)
    have ta := atI_ints (xs := ts) (i := j) (by omega)
    have ll : (lowW (ts.getD j 0) (ws.getD j none)).length ≤ 1 := by cases ws.getD j none <;> simp [lowW]
    obtain ⟨t8, k8, e⟩ := cand_loop ts ws hl x2 x3 x4 d (j + 1) (O ++ lowW (ts.getD j 0) (ws.getD j none)) (.fz (.int j)) (by omega) (by rw [List.length_append]; omega) rfl
    refine ⟨t8, k8, ?_⟩
    have l1 : (intsD O).length < 1000000 := by simp; omega
    have turn : L1__law_common [.fz (.tuple (intsD ts)), .fz (.tuple (wishesD ws)), x2, x3, x4, .ow (.list (intsD O)), .un, .un, .fz (.int j)] = .nx [.fz (.tuple (intsD ts)), .fz (.tuple (wishesD ws)), x2, x3, x4, .ow (.list (intsD (O ++ lowW (ts.getD j 0) (ws.getD j none)))), .un, .un, .fz (.int j)] := by
      rw [intsD_app]
      generalize ws.getD j none = w at *
      generalize ts.getD j 0 = t at *
      generalize intsD O = Q at *
      generalize wishesD ws = W at *
      generalize intsD ts = T at *
      cases w with
      | none => simp [L1__law_common, wa, ta, wishD, isNoneD, lowW, intsD]
      | some p => simp [L1__law_common, wa, ta, wishD, isNoneD, lowW, intsD, l1]
    rw [List.range'_succ, List.map_cons, List.flatMap_cons, ← List.append_assoc]
    simp only [forL, e_putNm, List.set_cons_succ, List.set_cons_zero]
    rw [turn]
    exact e
theorem count_loop (ts : List Int) (ws : List Wish) (hl : ws.length = ts.length) (low high : Nat) (h1 : low ≤ high) (h2 : high ≤ ts.length) (h3 : ts.length ≤ 1000) (x4 x5 : Slot) : ∀ (cs : List Int) (O : List Int) (s7 s8 : Slot), keepS s8 = s8 → O.length + cs.length ≤ 10000 → ∃ t7 t8,
    forL (.name 7) L2__law_common (intsD cs) [.fz (.tuple (intsD ts)), .fz (.tuple (wishesD ws)), .fz (.int low), .fz (.int high), x4, x5, .ow (.list (intsD O)), s7, s8] =
      .nx [.fz (.tuple (intsD ts)), .fz (.tuple (wishesD ws)), .fz (.int low), .fz (.int high), x4, x5, .ow (.list (intsD (O ++ cs.map fun s => cntG ts ws s low high))), t7, t8]
  | [], O, s7, s8, _, _ => ⟨s7, s8, by simp [forL, intsD]⟩
  | s :: cs, O, s7, s8, k8, hO => by
    obtain ⟨t7, t8, e⟩ := count_loop ts ws hl low high h1 h2 h3 x4 x5 cs (O ++ [cntG ts ws s low high]) (.fz (.int s)) s8 k8 (by simp at hO ⊢; omega)
    refine ⟨t7, t8, ?_⟩
    have comp := lcL_filterT (vs := [8]) (t := .name 8) (ft := T1__law_common) (fe := C1__law_common) (ρ := [.fz (.tuple (intsD ts)), .fz (.tuple (wishesD ws)), .fz (.int low), .fz (.int high), x4, x5, .ow (.list (intsD O)), .fz (.int s), s8]) (fun i : Nat => .int (i : Int)) (fun i : Nat => .int (i : Int)) (fun i => gdI ts ws s i) (List.range' low (high - low)) (by
      intro i hi
      have hi := List.mem_range'_1.mp hi
      have wa := wish_at (ws := ws) (i := i) (by omega)
      have ta := atI_ints (xs := ts) (i := i) (by omega)
      have g := good_fn s (ts.getD i 0) (ws.getD i none)
      refine ⟨[.fz (.tuple (intsD ts)), .fz (.tuple (wishesD ws)), .fz (.int low), .fz (.int high), x4, x5, .ow (.list (intsD O)), .fz (.int s), .fz (.int i)], by simp [wipeR], ?_, by simp [C1__law_common], by simp [backR, k8]⟩
      simp [T1__law_common, wa, ta, g, gdI, -List.getD_eq_getElem?_getD])
    have r2 : rng2 [.int low, .int high] = some ((List.range' low (high - low)).map fun i => .int (i : Nat)) := by
      rw [e_rng2, if_pos (by omega), ← rngD_nat]
      congr 2
      omega
    have l1 : (intsD O).length < 1000000 := by simp; simp at hO; omega
    have l2 : ((List.range' low (high - low)).map fun i => (.int (i : Nat) : D)).length ≤ 1000000 := by simp; omega
    have e1 : intsD (O ++ [cntG ts ws s low high]) = intsD O ++ [.int ((((List.range' low (high - low)).filter fun i => gdI ts ws s i).map fun i : Nat => (.int (i : Int) : D)).length : Nat)] := by
      rw [intsD_app, List.length_map]; rfl
    have turn : L2__law_common [.fz (.tuple (intsD ts)), .fz (.tuple (wishesD ws)), .fz (.int low), .fz (.int high), x4, x5, .ow (.list (intsD O)), .fz (.int s), s8] = .nx [.fz (.tuple (intsD ts)), .fz (.tuple (wishesD ws)), .fz (.int low), .fz (.int high), x4, x5, .ow (.list (intsD (O ++ [cntG ts ws s low high]))), .fz (.int s), s8] := by
      rw [e1]
      generalize ((List.range' low (high - low)).filter fun i => gdI ts ws s i).map (fun i : Nat => (.int (i : Int) : D)) = Z at *
      generalize (List.range' low (high - low)).map (fun i : Nat => (.int (i : Nat) : D)) = RR at *
      generalize intsD O = Q at *
      simp [L2__law_common, r2, l2, comp, l1, -e_rng2]
    rw [intsD_cons]
    simp only [forL, e_putNm, List.set_cons_succ, List.set_cons_zero]
    rw [turn]
    have : O ++ (s :: cs).map (fun s => cntG ts ws s low high) = O ++ [cntG ts ws s low high] ++ cs.map fun s => cntG ts ws s low high := by simp
    rw [this]
    exact e
theorem common_ok (ts : List Int) (ws : List Wish) (hl : ws.length = ts.length) (h3 : ts.length ≤ 900) (low high : Nat) (h1 : low ≤ high) (h2 : high ≤ ts.length) (f : Bool) : F__law_common [] [.tuple (intsD ts), .tuple (wishesD ws), .int low, .int high, .bool f] = .ok (.int (common ts ws f low high)) [] := by
  have r2 : rng2 [.int low, .int high] = some ((List.range' low (high - low)).map fun i => .int (i : Nat)) := by
    rw [e_rng2, if_pos (by omega), ← rngD_nat]
    congr 2
    omega
  have em := e_maxI ((cand ts ws f low high).map fun s => cntG ts ws s low high) (by simp [cand])
  have cl : (cand ts ws f low high).length ≤ 1000 := by
    have gen : ∀ L : List Nat, (L.flatMap fun i => lowW (ts.getD i 0) (ws.getD i none)).length ≤ L.length := by
      intro L
      induction L with
      | nil => simp
      | cons i L ih =>
        have ll : (lowW (ts.getD i 0) (ws.getD i none)).length ≤ 1 := by cases ws.getD i none <;> simp [lowW]
        rw [List.flatMap_cons, List.length_append, List.length_cons]; omega
    have := gen (List.range' low (high - low))
    unfold cand
    cases f <;> simp at this ⊢ <;> omega
  cases f with
  | true =>
    obtain ⟨t7, t8, e⟩ := count_loop ts ws hl low high h1 h2 (by omega) (.fz (.bool true)) (.fz (.list (intsD (cand ts ws true low high)))) (cand ts ws true low high) [] .un .un rfl (by simp; omega)
    rw [List.nil_append] at e
    have e : forL (.name 7) L2__law_common [.int 0] [.fz (.tuple (intsD ts)), .fz (.tuple (wishesD ws)), .fz (.int low), .fz (.int high), .fz (.bool true), .fz (.list [.int 0]), .ow (.list []), .un, .un] = _ := e
    unfold common
    generalize (cand ts ws true low high).map (fun s => cntG ts ws s low high) = CC at *
    simp [F__law_common, M__law_common, e, em]
  | false =>
    obtain ⟨u8, k8, e0⟩ := cand_loop ts ws hl (.fz (.int low)) (.fz (.int high)) (.fz (.bool false)) (high - low) low [0] .un (by omega) (by simp; omega) rfl
    obtain ⟨t7, t8, e⟩ := count_loop ts ws hl low high h1 h2 (by omega) (.fz (.bool false)) (.fz (.list (intsD (cand ts ws false low high)))) (cand ts ws false low high) [] .un u8 k8 (by simp; omega)
    rw [List.nil_append] at e
    have ce : [0] ++ (List.range' low (high - low)).flatMap (fun i => lowW (ts.getD i 0) (ws.getD i none)) = cand ts ws false low high := rfl
    rw [ce] at e0
    have e0 : forL (.name 8) L1__law_common _ [.fz (.tuple (intsD ts)), .fz (.tuple (wishesD ws)), .fz (.int low), .fz (.int high), .fz (.bool false), .ow (.list [.int 0]), .un, .un, .un] = _ := e0
    have e : forL (.name 7) L2__law_common (intsD (cand ts ws false low high)) [.fz (.tuple (intsD ts)), .fz (.tuple (wishesD ws)), .fz (.int low), .fz (.int high), .fz (.bool false), .fz (.list (intsD (cand ts ws false low high))), .ow (.list []), .un, u8] = _ := e
    unfold common
    generalize (cand ts ws false low high).map (fun s => cntG ts ws s low high) = CC at *
    generalize cand ts ws false low high = CN at *
    generalize (List.range' low (high - low)).map (fun i => (.int (i : Nat) : D)) = RR at *
    simp [F__law_common, M__law_common, r2, e0, e, em, -e_rng2]
def inB (rs : List (Int × Int)) (y : Int) (i : Nat) : Bool := decide ((rs.getD i (0, 0)).1 ≤ y ∧ y ≤ (rs.getD i (0, 0)).2)
theorem misses_cnt (rs : List (Int × Int)) (y : Int) (low : Nat) : ∀ d, low + d ≤ rs.length → misses rs y low (low + d) = (d : Int) - (((List.range' low d).filter fun i => inB rs y i).length : Nat)
  | 0, _ => by simp [misses_none]
  | d + 1, h => by
    have hr : rs[low + d]? = some rs[low + d] := List.getElem?_eq_getElem (by omega)
    rw [← Nat.add_assoc, misses_step rs y low (low + d) (by omega) hr, misses_cnt rs y low d (by omega), List.range'_concat, List.filter_append, List.length_append]
    have g : rs.getD (low + d) (0, 0) = rs[low + d] := by simp [List.getD, hr]
    have e : inB rs y (low + 1 * d) = decide (rs[low + d].1 ≤ y ∧ y ≤ rs[low + d].2) := by unfold inB; rw [Nat.one_mul, g]
    unfold mis
    by_cases q : rs[low + d].1 ≤ y ∧ y ≤ rs[low + d].2
    · rw [if_pos q, List.filter_cons_of_pos (by rw [e]; simpa using q)]
      simp only [List.filter_nil, List.length_cons, List.length_nil]; omega
    · rw [if_neg q, List.filter_cons_of_neg (by rw [e]; simpa using q)]
      simp only [List.filter_nil, List.length_nil]; omega
theorem rangesW_at (ts : List Int) (ws : List Wish) (hl : ws.length = ts.length) (i : Nat) (hi : i < ts.length) : (rangesW ts ws).getD i (0, 0) = rngW (ts.getD i 0) (ws.getD i none) := by
  have h2 : i < ws.length := by omega
  have : (ts.zip ws)[i]? = some (ts[i], ws[i]) := List.getElem?_zip_eq_some.mpr ⟨List.getElem?_eq_getElem hi, List.getElem?_eq_getElem h2⟩
  simp [rangesW, List.getD, this, hi, h2]
theorem in_gd (t y : Int) (w : Wish) (h : (rngW t w).1 ≤ y ∧ y ≤ (rngW t w).2) : gdB y t w = true := by
  cases w with
  | none => rfl
  | some p => simp only [rngW] at h; simp only [gdB, Bool.and_eq_true, decide_eq_true_eq]; omega
theorem gd_in (t y : Int) (w : Wish) (ht : -1000 ≤ t ∧ t ≤ 1000) (hy : -1000 ≤ y ∧ y ≤ 1000) (h : gdB y t w = true) : (rngW t w).1 ≤ y ∧ y ≤ (rngW t w).2 := by
  cases w with
  | none => simp only [rngW]; omega
  | some p => simp only [gdB, Bool.and_eq_true, decide_eq_true_eq] at h; simp only [rngW]; omega
theorem filt_le {α : Type} {p q : α → Bool} : ∀ {L : List α}, (∀ x ∈ L, p x = true → q x = true) → (L.filter p).length ≤ (L.filter q).length
  | [], _ => Nat.le_refl _
  | x :: L, h => by
    have ih := filt_le (L := L) fun y hy => h y (by simp [hy])
    by_cases hp : p x = true
    · rw [List.filter_cons_of_pos hp, List.filter_cons_of_pos (h x (by simp) hp)]; simp only [List.length_cons]; omega
    · rw [List.filter_cons_of_neg hp]
      by_cases hq : q x = true
      · rw [List.filter_cons_of_pos hq]; simp only [List.length_cons]; omega
      · rw [List.filter_cons_of_neg hq]; exact ih
def SmallR (ts : List Int) (ws : List Wish) : Prop := (∀ t ∈ ts, -100 ≤ t ∧ t ≤ 100) ∧ ∀ w ∈ ws, ∀ p, w = some p → -200 ≤ p.1 ∧ p.1 ≤ p.2 ∧ p.2 ≤ 200
theorem getD_t {ts : List Int} {A B : Int} (h : ∀ t ∈ ts, A ≤ t ∧ t ≤ B) (h0 : A ≤ 0 ∧ 0 ≤ B) (i : Nat) : A ≤ ts.getD i 0 ∧ ts.getD i 0 ≤ B := by
  by_cases hi : i < ts.length
  · exact h _ (by rw [List.getD, List.getElem?_eq_getElem hi]; simp)
  · rw [List.getD, List.getElem?_eq_none (by omega)]; exact h0
theorem getD_w {ws : List Wish} (i : Nat) : ws.getD i none ∈ ws ∨ ws.getD i none = none := by
  by_cases hi : i < ws.length
  · exact .inl (by rw [List.getD, List.getElem?_eq_getElem hi]; simp)
  · exact .inr (by rw [List.getD, List.getElem?_eq_none (by omega)]; rfl)
theorem cand_small {ts : List Int} {ws : List Wish} (h : SmallR ts ws) {f : Bool} {low high : Nat} {s : Int} (hs : s ∈ cand ts ws f low high) : -1000 ≤ s ∧ s ≤ 1000 := by
  unfold cand at hs
  rcases List.mem_cons.mp hs with rfl | hs
  · omega
  · cases f with
    | true => simp at hs
    | false =>
      simp only [Bool.false_eq_true, if_false] at hs
      obtain ⟨i, _, hs⟩ := List.mem_flatMap.mp hs
      have ht := getD_t h.1 (by omega) i
      rcases getD_w (ws := ws) i with hw | hw
      · cases hq : ws.getD i none with
        | none => rw [hq] at hs; simp [lowW] at hs
        | some p =>
          rw [hq] at hs hw
          have := h.2 _ hw p rfl
          simp only [lowW, List.mem_cons, List.not_mem_nil, or_false] at hs
          omega
      · rw [hw] at hs; simp [lowW] at hs
/-- a candidate as good as any shift -/
theorem cand_best (ts : List Int) (ws : List Wish) (f : Bool) (low high : Nat) (y : Int) (hf : f = true → y = 0) : ∃ s ∈ cand ts ws f low high, ∀ i ∈ List.range' low (high - low), gdI ts ws y i = true → gdI ts ws s i = true := by
  cases f with
  | true => exact ⟨0, by simp [cand], fun i _ h => by rw [hf rfl] at h; exact h⟩
  | false =>
    obtain ⟨L, hL⟩ : ∃ L, L = ((List.range' low (high - low)).filter fun i => gdI ts ws y i).flatMap fun i => lowW (ts.getD i 0) (ws.getD i none) := ⟨_, rfl⟩
    have inC : ∀ s ∈ L, s ∈ cand ts ws false low high := fun s hs => by
      rw [hL] at hs
      obtain ⟨i, hi, hs⟩ := List.mem_flatMap.mp hs
      exact List.mem_cons_of_mem _ (by
        simp only [Bool.false_eq_true, if_false]
        exact List.mem_flatMap.mpr ⟨i, (List.mem_filter.mp hi).1, hs⟩)
    have leY : ∀ s ∈ L, s ≤ y := fun s hs => by
      rw [hL] at hs
      obtain ⟨i, hi, hs⟩ := List.mem_flatMap.mp hs
      have g := (List.mem_filter.mp hi).2
      unfold gdI at g
      cases hq : ws.getD i none with
      | none => rw [hq] at hs; simp [lowW] at hs
      | some p =>
        rw [hq] at hs g
        simp only [gdB, Bool.and_eq_true, decide_eq_true_eq] at g
        simp only [lowW, List.mem_cons, List.not_mem_nil, or_false] at hs
        omega
    have geL : ∀ i ∈ List.range' low (high - low), gdI ts ws y i = true → ∀ p, ws.getD i none = some p → p.1 - ts.getD i 0 ∈ L := fun i hi g p hp => by
      rw [hL]
      refine List.mem_flatMap.mpr ⟨i, List.mem_filter.mpr ⟨hi, g⟩, ?_⟩
      rw [hp]; simp [lowW]
    by_cases hn : L = []
    · refine ⟨0, by simp [cand], fun i hi g => ?_⟩
      unfold gdI at g ⊢
      cases hq : ws.getD i none with
      | none => rfl
      | some p => have := geL i hi g p hq; rw [hn] at this; cases this
    · obtain ⟨m1, m2⟩ := maxOf_is hn
      refine ⟨maxOf L, inC _ m1, fun i hi g => ?_⟩
      have g0 := g
      unfold gdI at g ⊢
      cases hq : ws.getD i none with
      | none => rfl
      | some p =>
        rw [hq] at g
        have a := m2 _ (geL i hi g0 p hq)
        have b := leY _ m1
        simp only [gdB, Bool.and_eq_true, decide_eq_true_eq] at g ⊢
        omega
def partW (ts : List Int) (ws : List Wish) (f : Bool) (low high : Nat) : Int := ((high : Int) - low) - common ts ws f low high
theorem part_wish (ts : List Int) (ws : List Wish) (hl : ws.length = ts.length) (hs : SmallR ts ws) : Part 1 (rangesW ts ws) (partW ts ws) := by
  have rl := rangesW_len ts ws hl
  have key : ∀ (low high : Nat) (y : Int), low ≤ high → high ≤ ts.length → misses (rangesW ts ws) y low high = ((high : Int) - low) - (((List.range' low (high - low)).filter fun i => inB (rangesW ts ws) y i).length : Nat) := fun low high y h1 h2 => by
    have := misses_cnt (rangesW ts ws) y low (high - low) (by omega)
    rw [show low + (high - low) = high by omega] at this
    rw [this]; omega
  have cne : ∀ f low high, (cand ts ws f low high).map (fun s => cntG ts ws s low high) ≠ [] := fun f low high => by simp [cand]
  constructor
  · intro f low high y h1 h2 hf
    rw [rl] at h2
    rw [key low high y h1 h2, Int.one_mul]
    obtain ⟨s, hs', hg⟩ := cand_best ts ws f low high y hf
    have c := (maxOf_is (cne f low high)).2 _ (List.mem_map_of_mem (f := fun s => cntG ts ws s low high) hs')
    have fl : ((List.range' low (high - low)).filter fun i => inB (rangesW ts ws) y i).length ≤ ((List.range' low (high - low)).filter fun i => gdI ts ws s i).length := filt_le fun i hi h => by
      have hi2 := List.mem_range'_1.mp hi
      unfold inB at h
      rw [rangesW_at ts ws hl i (by omega), decide_eq_true_eq] at h
      exact hg i hi (in_gd _ _ _ h)
    unfold partW common
    unfold cntG at c ⊢
    omega
  · intro f low high h1 h2
    rw [rl] at h2
    obtain ⟨s, hs', e⟩ := List.mem_map.mp (maxOf_is (cne f low high)).1
    refine ⟨s, fun hf => ?_, ?_⟩
    · subst hf
      simpa [cand] using hs'
    · rw [key low high s h1 h2, Int.one_mul]
      have sm := cand_small hs hs'
      have fe : ((List.range' low (high - low)).filter fun i => inB (rangesW ts ws) s i) = (List.range' low (high - low)).filter fun i => gdI ts ws s i := List.filter_congr fun i hi => by
        have hi2 := List.mem_range'_1.mp hi
        have ht := getD_t hs.1 (by omega) i
        unfold inB gdI
        rw [rangesW_at ts ws hl i (by omega)]
        cases g : gdB s (ts.getD i 0) (ws.getD i none) with
        | true => rw [decide_eq_true_eq]; exact gd_in _ _ _ (by omega) sm g
        | false =>
          rw [decide_eq_false_iff_not]
          intro z
          rw [in_gd _ _ _ z] at g; cases g
      rw [fe]
      unfold partW common
      rw [← e]
      rfl
def comS (ts : List Int) (ws : List Wish) (n : Nat) : Bool → Nat → List Nat → Int
  | f, low, [] => common ts ws f low n
  | f, low, c :: C => common ts ws f low c + comS ts ws n false c C
theorem price_com (ts : List Int) (ws : List Wish) (n : Nat) : ∀ (C : List Nat) (f : Bool) (low : Nat), priceC 1 (partW ts ws) n f low C = (C.length : Int) + ((n : Int) - low) - comS ts ws n f low C
  | [], f, low => by simp [priceC, comS, partW]
  | c :: C, f, low => by
    rw [priceC, price_com ts ws n C false c, comS, partW, List.length_cons]
    omega
theorem few_loop (ts : List Int) (ws : List Wish) (hl : ws.length = ts.length) (h3 : ts.length ≤ 900) (x2 x3 : Slot) (E : List Nat) : ∀ (C : List Nat) (low a : Nat) (num : Int) (s6 s7 : Slot), E.drop a = low :: C ++ [ts.length] → (low :: C ++ [ts.length]).Pairwise (· ≤ ·) → (∀ c ∈ low :: C, c ≤ ts.length) → ∃ t6 t7,
    forL (.tup [6, 7]) L1__law_fewest (((low :: C).zipIdx a).map fun p => .tuple [.int (p.2 : Nat), .int (p.1 : Nat)]) [.fz (.tuple (intsD ts)), .fz (.tuple (wishesD ws)), x2, x3, .fz (.list (intsD (natsI E))), .fz (.int num), s6, s7] =
      .nx [.fz (.tuple (intsD ts)), .fz (.tuple (wishesD ws)), x2, x3, .fz (.list (intsD (natsI E))), .fz (.int (num - comS ts ws ts.length (decide (a = 0)) low C)), t6, t7] := by
  intro C
  induction C with
  | nil =>
    intro low a num s6 s7 hE _ hC
    have ax : atI (intsD (natsI E)) ((a : Int) + 1) = some (.int (ts.length : Nat)) := by
      have : E[a + 1]? = some ts.length := by
        have := congrArg (fun L : List Nat => L[1]?) hE
        rw [List.getElem?_drop] at this
        simpa using this
      have := Cap.atI_nat (xs := intsD (natsI E)) (i := a + 1) (x := .int (ts.length : Nat)) (by simp [intsD, natsI, this])
      rw [show ((a + 1 : Nat) : Int) = (a : Int) + 1 by omega] at this
      exact this
    have c := common_ok ts ws hl h3 low ts.length (hC low (by simp)) (Nat.le_refl _) (decide (a = 0))
    have d : decide ((a : Int) = 0) = decide (a = 0) := by
      by_cases q : a = 0
      · subst q; rfl
      · rw [decide_eq_false q, decide_eq_false (by omega)]
    refine ⟨.fz (.int a), .fz (.int low), ?_⟩
    generalize intsD (natsI E) = ED at *
    simp [forL, L1__law_fewest, ax, d, c, comS]
  | cons e C ih =>
    intro low a num s6 s7 hE hp hC
    have hE2 : E.drop (a + 1) = e :: C ++ [ts.length] := by
      have := congrArg (List.drop 1) hE
      rw [List.drop_drop] at this
      simpa using this
    rw [List.cons_append, List.pairwise_cons] at hp
    have le := hp.1 e (by simp)
    obtain ⟨t6, t7, e2⟩ := ih e (a + 1) (num - common ts ws (decide (a = 0)) low e) (.fz (.int a)) (.fz (.int low)) hE2 hp.2 (fun c hc => hC c (List.mem_cons_of_mem _ hc))
    have ax : atI (intsD (natsI E)) ((a : Int) + 1) = some (.int (e : Nat)) := by
      have : E[a + 1]? = some e := by
        have := congrArg (fun L : List Nat => L[1]?) hE
        rw [List.getElem?_drop] at this
        simpa using this
      have := Cap.atI_nat (xs := intsD (natsI E)) (i := a + 1) (x := .int (e : Nat)) (by simp [intsD, natsI, this])
      rw [show ((a + 1 : Nat) : Int) = (a : Int) + 1 by omega] at this
      exact this
    have c := common_ok ts ws hl h3 low e le (hC e (by simp)) (decide (a = 0))
    have d : decide ((a : Int) = 0) = decide (a = 0) := by
      by_cases q : a = 0
      · subst q; rfl
      · rw [decide_eq_false q, decide_eq_false (by omega)]
    refine ⟨t6, t7, ?_⟩
    rw [List.zipIdx_cons, List.map_cons]
    simp only [forL, e_putTup, List.length_cons, List.length_nil, if_true, e_setAll1, e_setAll0, List.set_cons_succ, List.set_cons_zero]
    have turn : L1__law_fewest [.fz (.tuple (intsD ts)), .fz (.tuple (wishesD ws)), x2, x3, .fz (.list (intsD (natsI E))), .fz (.int num), .fz (.int a), .fz (.int low)] = .nx [.fz (.tuple (intsD ts)), .fz (.tuple (wishesD ws)), x2, x3, .fz (.list (intsD (natsI E))), .fz (.int (num - common ts ws (decide (a = 0)) low e)), .fz (.int a), .fz (.int low)] := by
      generalize intsD (natsI E) = ED at *
      simp [L1__law_fewest, ax, d, c]
    rw [turn]
    rw [comS]
    have : decide (a + 1 = 0) = false := by simp
    rw [this] at e2
    have ar : num - (common ts ws (decide (a = 0)) low e + comS ts ws ts.length false e C) = num - common ts ws (decide (a = 0)) low e - comS ts ws ts.length false e C := by omega
    rw [ar]
    exact e2
theorem few_turn (ts : List Int) (ws : List Wish) (hl : ws.length = ts.length) (h3 : ts.length ≤ 900) (C : List Nat) (hC : C ∈ cutsZ ts.length) (b : Option Int) (s4 s5 s6 s7 : Slot) : ∃ t4 t5 t6 t7,
    L2__law_fewest [.fz (.tuple (intsD ts)), .fz (.tuple (wishesD ws)), .fz (optD b), .fz (.tuple (intsD (natsI C))), s4, s5, s6, s7] =
      .nx [.fz (.tuple (intsD ts)), .fz (.tuple (wishesD ws)), .fz (optD (bestOf b (priceC 1 (partW ts ws) ts.length true 0 C))), .fz (.tuple (intsD (natsI C))), t4, t5, t6, t7] := by
  obtain ⟨c1, c2⟩ := mem_cutsZ.mp hC
  have hsz := cuts_short hC
  have pw : (0 :: C ++ [ts.length]).Pairwise (· ≤ ·) := by
    refine List.pairwise_append.mpr ⟨List.pairwise_cons.mpr ⟨fun a _ => Nat.zero_le a, c1.imp fun q => by omega⟩, by simp, fun a ha b hb => ?_⟩
    have hb : b = ts.length := by simpa using hb
    rcases List.mem_cons.mp ha with rfl | ha
    · omega
    · have := c2 a ha; omega
  obtain ⟨t6, t7, e⟩ := few_loop ts ws hl h3 (.fz (optD b)) (.fz (.tuple (intsD (natsI C)))) (0 :: C ++ [ts.length]) C 0 0 ((C.length : Int) + ts.length) s6 s7 (by simp) pw (fun c hc => by
    rcases List.mem_cons.mp hc with rfl | hc
    · omega
    · have := c2 c hc; omega)
  have pe := price_com ts ws ts.length C true 0
  have en : (((0 :: C).zipIdx 0).map fun p : Nat × Nat => (.tuple [.int (p.2 : Nat), .int (p.1 : Nat)] : D)) = enumD (intsD (natsI (0 :: C))) := by
    rw [enumD_ints]
    simp [natsI, List.zipIdx_map, Function.comp_def]
  rw [en] at e
  have ct : cut (intsD (natsI (0 :: C ++ [ts.length]))) none (some (-1)) = intsD (natsI (0 :: C)) := by
    have ee : intsD (natsI (0 :: C ++ [ts.length])) = intsD (natsI (0 :: C)) ++ [.int (ts.length : Nat)] := by simp [natsI, intsD]
    rw [ee]
    generalize intsD (natsI (0 :: C)) = Z
    unfold cut
    have e1 : HT.sIx (Z ++ [PyData.int (ts.length : Nat)]).length (Z ++ [PyData.int (ts.length : Nat)]).length (some (-1)) = Z.length := by
      have lz : (Z ++ [PyData.int (ts.length : Nat)]).length = Z.length + 1 := by simp
      rw [lz]
      show (if (-1 : Int) < 0 then ((-1 : Int) + ((Z.length + 1 : Nat) : Int)).toNat else min (-1 : Int).toNat (Z.length + 1)) = Z.length
      rw [if_pos (by omega)]
      omega
    rw [e1, HT.sIx_none]
    simp
  have ends : (.int 0 : D) :: (intsD (natsI C) ++ [.int (ts.length : Int)]) = intsD (natsI (0 :: C ++ [ts.length])) := by simp [natsI, intsD]
  have num : priceC 1 (partW ts ws) ts.length true 0 C = (C.length : Int) + ts.length - comS ts ws ts.length true 0 C := by rw [pe]; omega
  rw [num]
  have d0 : decide ((0 : Nat) = 0) = true := rfl
  rw [d0] at e
  refine ⟨.fz (.list (intsD (natsI (0 :: C ++ [ts.length])))), .fz (.int ((C.length : Int) + ts.length - comS ts ws ts.length true 0 C)), t6, t7, ?_⟩
  have l1 : 1 + C.length + 1 ≤ 1000000 := by omega
  have l2 : 1 + C.length ≤ 1000000 := by omega
  have l3 : C.length ≤ 999998 := by omega
  have nl : (natsI C).length = C.length := natsI_len C
  generalize hE : intsD (natsI (0 :: C ++ [ts.length])) = ED at *
  generalize hF : intsD (natsI (0 :: C)) = FD at *
  have ends' : (.int 0 : D) :: (intsD (natsI C) ++ [.int (ts.length : Int)]) = ED := ends
  simp [L2__law_fewest, nl, l1, l2, l3, ends', ct, e]
  generalize (C.length : Int) + ts.length - comS ts ws ts.length true 0 C = v
  cases b with
  | none => simp [optD, bestOf, isNoneD]
  | some w =>
    by_cases hv : v < w
    · simp [optD, bestOf, isNoneD, hv]
    · simp [optD, bestOf, isNoneD, hv]
theorem law_fewest_ok (ts : List Int) (ws : List Wish) (hl : ws.length = ts.length) (h12 : ts.length ≤ 12) (hs : SmallR ts ws) : ∃ v, F__law_fewest [] [.tuple (intsD ts), .tuple (wishesD ws)] = .ok (.int v) [] ∧ IsMin 1 1 (rangesW ts ws) v := by
  obtain ⟨ρ', e, t3, t4, t5, t6, t7, rfl⟩ := forL_rel (t := .name 3) (f := L2__law_fewest) (fun C : List Nat => .tuple (intsD (natsI C)))
    (fun b ρ => ∃ t3 t4 t5 t6 t7, ρ = [.fz (.tuple (intsD ts)), .fz (.tuple (wishesD ws)), .fz (optD b), t3, t4, t5, t6, t7]) (fun b C => bestOf b (priceC 1 (partW ts ws) ts.length true 0 C)) (cutsZ ts.length) none
    [.fz (.tuple (intsD ts)), .fz (.tuple (wishesD ws)), .fz .none, .un, .un, .un, .un, .un] (by
      rintro b C ρ hC ⟨s3, s4, s5, s6, s7, rfl⟩
      obtain ⟨t4, t5, t6, t7, e⟩ := few_turn ts ws hl (by omega) C hC b s4 s5 s6 s7
      exact ⟨_, _, rfl, .inl e, _, _, _, _, _, rfl⟩) ⟨_, _, _, _, _, rfl⟩
  have ne : cutsZ ts.length ≠ [] := fun z => by
    have := cutsZ_len ts.length
    rw [z] at this
    have h2 : 0 < 2 ^ ts.length := Nat.pow_pos (by omega)
    simp at this
    omega
  obtain ⟨v, ev, h1, h2, _⟩ := best_fold ((cutsZ ts.length).map fun C => priceC 1 (partW ts ws) ts.length true 0 C) none (.inl (by simp [ne]))
  rw [List.foldl_map] at ev
  rw [ev] at e
  have e : forL (.name 3) L2__law_fewest (cutsD (cutsZ ts.length)) _ = _ := e
  have rl := rangesW_len ts ws hl
  refine ⟨v, ?_, cuts_min (part_wish ts ws hl hs) (by omega) (by omega) (fun C hC => ?_) ?_⟩
  · simp [F__law_fewest, M__law_fewest, law_cuts_ok ts.length h12, e, optD]
  · rw [rl] at hC ⊢
    exact h2 _ (List.mem_map_of_mem hC)
  · rw [rl]
    rcases h1 with h1 | h1
    · obtain ⟨C, hC, e⟩ := List.mem_map.mp h1
      exact ⟨C, hC, e⟩
    · cases h1
def Drawn (w : Int) (t : Int) : Wish → Prop
  | none => True
  | some p => t - w ≤ p.1 ∧ p.1 ≤ p.2 ∧ p.2 ≤ t + 2 * w
theorem wishes_turn {b : D} (hb : IsBag b) (x1 : Slot) (w : Int) (hw : 0 < w) (hw2 : w ≤ 30) (t : Int) (L : List Wish) (hL : L.length ≤ 1000) (s5 s6 : Slot) : ∃ b' W t5 t6,
    L1__law_wishes [.ow b, x1, .fz (.int w), .fz (.tuple (wishesD L)), .fz (.int t), s5, s6] = .nx [.ow b', x1, .fz (.int w), .fz (.tuple (wishesD (L ++ [W]))), .fz (.int t), t5, t6] ∧ IsBag b' ∧ Drawn w t W := by
  obtain ⟨r1, b1, e1, hb1, p1, q1⟩ := take_ok hb (2 * w + 1) (by omega) (by omega)
  obtain ⟨r2, b2, e2, hb2, p2, q2⟩ := take_ok hb1 (w + 1) (by omega) (by omega)
  obtain ⟨r3, hr3, b3, e3, hb3⟩ := ofI_ok hb2 [0, r2] (by simp) (by simp)
  have hr3 : 0 ≤ r3 ∧ r3 ≤ w := by simp at hr3; omega
  have e3 : F__law_of [b2] [.list [.int 0, .int r2]] = _ := e3
  obtain ⟨x, hx, b4, e4, hb4⟩ := of_ok hb3 [.none, .tuple [.int (t + r1 - w), .int (t + r1 - w + r3)], .tuple [.int (t + r1 - w), .int (t + r1 - w + r3)], .tuple [.int (t + r1 - w), .int (t + r1 - w + r3)]] (by simp) (by simp)
  have hW : ∃ W : Wish, x = wishD W ∧ Drawn w t W := by
    simp only [List.mem_cons, List.not_mem_nil, or_false] at hx
    rcases hx with rfl | rfl | rfl | rfl
    · exact ⟨none, rfl, trivial⟩
    · exact ⟨some (t + r1 - w, t + r1 - w + r3), rfl, by simp only [Drawn]; omega⟩
    · exact ⟨some (t + r1 - w, t + r1 - w + r3), rfl, by simp only [Drawn]; omega⟩
    · exact ⟨some (t + r1 - w, t + r1 - w + r3), rfl, by simp only [Drawn]; omega⟩
  obtain ⟨W, rfl, hN⟩ := hW
  have ap : wishesD (L ++ [W]) = wishesD L ++ [wishD W] := by simp [wishesD]
  have l1 : (wishesD L).length + 1 ≤ 1000000 := by simp [wishesD]; omega
  have m : mulA (.int 2) (.int w) = some (.int (2 * w)) := e_mul _ _ (by omega)
  refine ⟨b4, W, .fz (.int (t + r1 - w)), .fz (.tuple [.int (t + r1 - w), .int (t + r1 - w + r3)]), ?_, hb4, hN⟩
  rw [ap]
  generalize wishesD L = Q at *
  simp [L1__law_wishes, m, e1, e2, e3, e4, l1]
theorem wishes_loop (x1 : Slot) (w : Int) (hw : 0 < w) (hw2 : w ≤ 30) : ∀ (ts : List Int) {b : D} (hb : IsBag b) (L : List Wish) (s4 s5 s6 : Slot), L.length + ts.length ≤ 1000 → ∃ b' ws t4 t5 t6,
    forL (.name 4) L1__law_wishes (intsD ts) [.ow b, x1, .fz (.int w), .fz (.tuple (wishesD L)), s4, s5, s6] = .nx [.ow b', x1, .fz (.int w), .fz (.tuple (wishesD (L ++ ws))), t4, t5, t6] ∧ IsBag b' ∧ ws.length = ts.length ∧ ∀ p ∈ ts.zip ws, Drawn w p.1 p.2
  | [], b, hb, L, s4, s5, s6, _ => ⟨b, [], s4, s5, s6, by simp [forL, intsD], hb, rfl, by simp⟩
  | t :: ts, b, hb, L, s4, s5, s6, h => by
    obtain ⟨b1, W, t5, t6, e, hb1, hW⟩ := wishes_turn hb x1 w hw hw2 t L (by simp at h; omega) s5 s6
    obtain ⟨b2, ws, u4, u5, u6, e2, hb2, k1, k2⟩ := wishes_loop x1 w hw hw2 ts hb1 (L ++ [W]) (.fz (.int t)) t5 t6 (by simp at h ⊢; omega)
    refine ⟨b2, W :: ws, u4, u5, u6, ?_, hb2, by simp [k1], fun p hp => ?_⟩
    · rw [intsD_cons]
      simp only [forL, e_putNm, List.set_cons_succ, List.set_cons_zero]
      rw [e]
      simpa using e2
    · rw [List.zip_cons_cons] at hp
      rcases List.mem_cons.mp hp with rfl | hp
      · exact hW
      · exact k2 p hp
theorem wishes_ok {b : D} (hb : IsBag b) (ts : List Int) (hts : ts.length ≤ 100) (w : Int) (hw : 0 < w) (hw2 : w ≤ 30) : ∃ ws b', F__law_wishes [b] [.tuple (intsD ts), .int w] = .ok (.tuple (wishesD ws)) [b'] ∧ IsBag b' ∧ ws.length = ts.length ∧ ∀ p ∈ ts.zip ws, Drawn w p.1 p.2 := by
  obtain ⟨b', ws, t4, t5, t6, e, hb', k1, k2⟩ := wishes_loop (.fz (.tuple (intsD ts))) w hw hw2 ts hb [] .un .un .un (by simp; omega)
  rw [List.nil_append] at e
  have e : forL (.name 4) L1__law_wishes (intsD ts) [.ow b, .fz (.tuple (intsD ts)), .fz (.int w), .fz (.tuple []), .un, .un, .un] = _ := e
  refine ⟨ws, b', ?_, hb', k1, k2⟩
  simp only [F__law_wishes, M__law_wishes, e_runF, e_startR, e_mSeq]
  simp [e]
def I (ns : List Int) (k : D) (ρ : Rho) : Prop := ∃ b s2 s4 s5 s6 s7 s8, IsBag b ∧ ρ = [.fz (scrD ns), .fz k, s2, .ow b, s4, s5, s6, s7, s8, .un, .un]
theorem turn (ns : List Int) (kk : D) (k : Nat) (ρ : Rho) (hI : I ns kk ρ) : ∃ ρ2, L1_law (ρ.set 4 (.fz (.int k))) = .nx ρ2 ∧ I ns kk ρ2 := by
  obtain ⟨b0, s2, s4, s5, s6, s7, s8, hb0, rfl⟩ := hI
  obtain ⟨w, hw, b1, e1, hb1⟩ := ofI_ok hb0 [2, 4, 30] (by simp) (by simp)
  have w1 : 0 < w ∧ w ≤ 30 := by simp at hw; omega
  obtain ⟨r, b2, e2, hb2, r0, r1⟩ := take_ok hb1 7 (by omega) (by omega)
  obtain ⟨ts, b3, e3, hb3, u1, u2⟩ := times_ok hb2 (1 + r) 20 (by omega) (by omega) (by omega) (by omega)
  have t1 : 1 ≤ ts.length ∧ ts.length ≤ 8 := by omega
  obtain ⟨ws, b4, e4, hb4, wl, wd⟩ := wishes_ok hb3 ts (by omega) w w1.1 w1.2
  have g1 : GoodT ts := ⟨by omega, by omega, fun x hx => by have := u2 x hx; omega⟩
  have small : ∀ W ∈ ws, ∀ p, W = some p → -200 ≤ p.1 ∧ p.1 ≤ p.2 ∧ p.2 ≤ 200 := fun W hW p hp => by
    obtain ⟨i, hi⟩ := List.mem_iff_getElem?.mp hW
    have il : i < ts.length := by have := (List.getElem?_eq_some_iff.mp hi).1; omega
    have d := wd (ts[i], W) (List.mem_of_getElem? (List.getElem?_zip_eq_some.mpr ⟨List.getElem?_eq_getElem il, hi⟩))
    have := u2 ts[i] (List.getElem_mem il)
    subst hp
    simp only [Drawn] at d
    omega
  have sr : SmallR ts ws := ⟨fun t ht => by have := u2 t ht; omega, small⟩
  have wo : ∀ W ∈ ws, WishOk W := fun W hW => by
    cases hq : W with
    | none => trivial
    | some p => have := small W hW p hq; simp only [WishOk]; omega
  obtain ⟨v, e5, hv⟩ := law_fewest_ok ts ws wl (by omega) sr
  obtain ⟨mn, _, _⟩ := bestW_is ts ws g1 wl
  have ev := mn.uniq hv
  have f1 := fewest_wish_ok ts ws g1 wl wo
  have f2 := best_times_ok ts ws g1 wl wo
  have sl := shiftW_len ts ws g1 wl
  obtain ⟨gbest, goods⟩ := best_good ts ws g1 wl wo
  obtain ⟨best, hbest⟩ : ∃ best, best = movedZ ts (shiftW ts ws) := ⟨_, rfl⟩
  have bl : best.length = ts.length := by rw [hbest, moved_len _ _ sl]
  have fb := fewest_fn ts best g1 (by rw [hbest]; exact gbest) bl
  have sb : shiftsZ ts best = shiftW ts ws := by rw [hbest]; exact shifts_moved ts _ sl
  rw [sb, shiftW_fewest ts ws g1 wl wo, ev] at fb
  rw [ev] at f1
  rw [← hbest] at f2 goods
  have c2 := lcL_filterT (vs := [9, 10]) (t := .tup [9, 10]) (ft := T1_law) (fe := C1_law) (ρ := [.fz (scrD ns), .fz kk, .fz (.tuple (wishesD ws)), .ow b4, .fz (.int k), .fz (.int w), .fz (.tuple (intsD ts)), .fz (.int v), .fz (.tuple (intsD best)), .un, .un])
    (fun p : Int × Nat => .tuple [.int (p.2 : Nat), .int p.1]) (fun _ => .int 1) (fun _ => false) best.zipIdx (by
      intro p hp
      have hp' := List.mem_zipIdx' hp
      have il : p.2 < ws.length := by have := hp'.1; omega
      have bi : best[p.2]? = some p.1 := by rw [List.getElem?_eq_getElem hp'.1]; exact congrArg some hp'.2.symm
      have wa := wish_at (ws := ws) (i := p.2) il
      have gf := good_fn 0 p.1 (ws.getD p.2 none)
      have gd : gdB 0 p.1 (ws.getD p.2 none) = true := by
        have wg : ws.getD p.2 none = ws[p.2] := by simp [List.getD, il]
        have gw := goods (p.1, ws[p.2]) (List.mem_of_getElem? (List.getElem?_zip_eq_some.mpr ⟨bi, List.getElem?_eq_getElem il⟩))
        rw [wg]
        revert gw
        generalize ws[p.2] = W
        intro gw
        cases W with
        | none => rfl
        | some q => simp only [goodW] at gw; simp only [gdB, Bool.and_eq_true, decide_eq_true_eq]; omega
      rw [gd] at gf
      refine ⟨[.fz (scrD ns), .fz kk, .fz (.tuple (wishesD ws)), .ow b4, .fz (.int k), .fz (.int w), .fz (.tuple (intsD ts)), .fz (.int v), .fz (.tuple (intsD best)), .fz (.int (p.2 : Nat)), .fz (.int p.1)], by simp [wipeR], ?_, by simp, by simp [backR, keepS]⟩
      generalize ws.getD p.2 none = W at *
      simp [T1_law, wa, gf])
  rw [← enumD_ints] at c2
  have fz : (best.zipIdx.filter fun _ => false).map (fun _ => (.int 1 : D)) = [] := by simp
  rw [fz] at c2
  have e1 : F__law_of [b0] [.list [.int 2, .int 4, .int 30]] = _ := e1
  have nln : neD (.list []) (.list []) = some (.bool false) := by rfl
  have el : (enumD (intsD best)).length ≤ 1000000 := by rw [enumD_len]; simp; omega
  refine ⟨[.fz (scrD ns), .fz kk, .fz (.tuple (wishesD ws)), .ow b4, .fz (.int k), .fz (.int w), .fz (.tuple (intsD ts)), .fz (.int v), .fz (.tuple (intsD best)), .un, .un], ?_, b4, _, _, _, _, _, _, hb4, rfl⟩
  simp only [L1_law, List.set_cons_succ, List.set_cons_zero]
  generalize wishesD ws = WD at *
  simp [e1, e2, e3, e4, e5, f1, f2, fb, bl, el, c2, nln]
def J (ns : List Int) (ρ : Rho) : Prop := ∃ s1 s2 s3 s4 s5 s6 s7 s8, ρ = [.fz (scrD ns), s1, s2, s3, s4, s5, s6, s7, s8, .un, .un]
theorem turn2 (ns : List Int) (k : Nat) (ρ : Rho) (hk : k ≤ 1000) (hJ : J ns ρ) : ∃ ρ2, L2_law (ρ.set 1 (.fz (.int k))) = .nx ρ2 ∧ J ns ρ2 := by
  obtain ⟨s1, s2, s3, s4, s5, s6, s7, s8, rfl⟩ := hJ
  obtain ⟨b, e, hb⟩ := bag_ok ns k hk
  obtain ⟨ρ', e2, b', t2, t4, t5, t6, t7, t8, hb', rfl⟩ := for_range' (v := 4) (f := L1_law) 1000 (I ns (.int k)) (fun j ρ hj hI => turn ns (.int k) j ρ hI) 3 0 [.fz (scrD ns), .fz (.int k), s2, .ow b, s4, s5, s6, s7, s8, .un, .un] (by omega)
    ⟨b, _, _, _, _, _, _, hb, rfl⟩
  rw [← rngD_range'] at e2
  refine ⟨[.fz (scrD ns), .fz (.int k), t2, .ow b', t4, t5, t6, t7, t8, .un, .un], ?_, ⟨_, _, _, _, _, _, _, _, rfl⟩⟩
  simp [L2_law, e, e2]
theorem law_true (ns : List Int) (h : ns.length ≤ 63) : F_law [] [scrD ns] = .ok (.bool true) [] := by
  obtain ⟨ρ', e, s1, s2, s3, s4, s5, s6, s7, s8, rfl⟩ := for_range' (v := 1) (f := L2_law) 1000 (J ns) (fun k ρ hk hJ => turn2 ns k ρ hk hJ) (min (ns.length : Int) 5 + 2).toNat 0 [.fz (scrD ns), .un, .un, .un, .un, .un, .un, .un, .un, .un, .un] (by omega)
    ⟨_, _, _, _, _, _, _, _, rfl⟩
  rw [← rngD_range'] at e
  have r1 : rng1 [.int (min (ns.length : Int) 5 + 2)] = some (rngD 0 (min (ns.length : Int) 5 + 2).toNat) := by
    rw [e_rng1, if_pos (by omega)]
  have b1 := fewest_wish_ok [0, 10, 20, 30] [none, some (12, 15), some (25, 29), some (33, 33)] ⟨by decide, by decide, fun x hx => by simp at hx; omega⟩ rfl (fun W hW => by
    simp only [List.mem_cons, List.not_mem_nil, or_false] at hW
    rcases hW with rfl | rfl | rfl | rfl <;> (simp only [WishOk]; try omega))
  have b2 := best_times_ok [0, 9] [some (0, 0), some (4, 4)] ⟨by decide, by decide, fun x hx => by simp at hx; omega⟩ rfl (fun W hW => by
    simp only [List.mem_cons, List.not_mem_nil, or_false] at hW
    rcases hW with rfl | rfl <;> (simp only [WishOk]; omega))
  have c1 : (bestW [0, 10, 20, 30] [none, some (12, 15), some (25, 29), some (33, 33)]).1 = 2 := by decide +kernel
  have c2 : movedZ [0, 9] (shiftW [0, 9] [some (0, 0), some (4, 4)]) = [0, 4] := by decide +kernel
  rw [c1] at b1
  rw [c2] at b2
  have b1 : F_fewest_wish [] [.tuple [.int 0, .int 10, .int 20, .int 30], .tuple [.none, .tuple [.int 12, .int 15], .tuple [.int 25, .int 29], .tuple [.int 33, .int 33]]] = .ok (.int 2) [] := b1
  have b2 : F_best_times [] [.tuple [.int 0, .int 9], .tuple [.tuple [.int 0, .int 0], .tuple [.int 4, .int 4]]] = .ok (.tuple [.int 0, .int 4]) [] := b2
  have d1 : eqD (.tuple [.int 0, .int 4]) (.tuple [.int 0, .int 4]) = some (.bool true) := by rfl
  simp [F_law, M_law, r1, e, b1, b2, d1, -e_rng1]
end Lk10
set_option Elab.async false
set_option linter.all false
open PySem PySem.W PyProof.Rows
set_option maxRecDepth 100000 in
set_option maxHeartbeats 0 in
theorem PySem.Challenge.cw_captionshifts_k10_whole_wished_ranges_by_holds : PySem.Challenge.rw_captionshifts_k10_whole_wished_ranges_by.Holds := by
  w_on; o_law; k_head; (case hw => w_witness2)
  k_fill
  refine Mi.walk_mi (l := PySem.Challenge.rw_captionshifts_k10_whole_wished_ranges_by) (k := 6) rfl rfl ⟨rfl, by decide, by decide⟩ (fun w h Y => PySem.W.kIn_of Y) Lk10.law_true ?F
  case F =>
    intro w mg fa h KX G hmg
    refine' Lk10.all_fin KX G hmg ?f0_h ?f0_l ?f0_c ?f0_k ?f1_h ?f1_l ?f1_c ?f1_k ?f2_h ?f2_l ?f2_c ?f2_k ?f3_h ?f3_l ?f3_c ?f3_k ?f4_h ?f4_l ?f4_c ?f4_k ?f5_h ?f5_l ?f5_c ?f5_k ?f6_h ?f6_l ?f6_c ?f6_k ?f7_h ?f7_l ?f7_c ?f7_k ?f8_h ?f8_l ?f8_c ?f8_k ?f9_h ?f9_l ?f9_c ?f9_k ?f10_h ?f10_l ?f10_c ?f10_k ?f11_h ?f11_l ?f11_c ?f11_k ?f12_h ?f12_l ?f12_c ?f12_k ?f13_h ?f13_l ?f13_c ?f13_k ?f14_h ?f14_l ?f14_c ?f14_k ?f15_h ?f15_l ?f15_c ?f15_k ?f16_h ?f16_l ?f16_c ?f16_k ?f17_h ?f17_l ?f17_c ?f17_k ?f18_h ?f18_l ?f18_c ?f18_k ?f19_h ?f19_l ?f19_c ?f19_k ?f20_h ?f20_l ?f20_c ?f20_k ?f21_h ?f21_l ?f21_c ?f21_k ?f22_h ?f22_l ?f22_c ?f22_k ?f23_h ?f23_l ?f23_c ?f23_k ?f24_h ?f24_l ?f24_c ?f24_k ?f25_h ?f25_l ?f25_c ?f25_k ?q_LARGEST ?q_LONGEST ?z_all ?z_bool ?z_enumerate ?z_int ?z_isinstance ?z_len ?z_list ?z_max ?z_min ?z_range ?z_set ?z_sorted ?z_tuple ?z_zip ?g_InvalidTimes ?x_InvalidTimes ?k_InvalidTimes ?s_InvalidTimes ?t_InvalidTimes ?g_InvalidWishes ?x_InvalidWishes ?k_InvalidWishes ?s_InvalidWishes ?t_InvalidWishes
    (case f0_h => k_is)
    (case f0_l => k_is)
    (case f0_c => k_is)
    (case f0_k => k_is)
    (case f1_h => k_is)
    (case f1_l => k_is)
    (case f1_c => k_is)
    (case f1_k => k_is)
    (case f2_h => k_is)
    (case f2_l => k_is)
    (case f2_c => k_is)
    (case f2_k => k_is)
    (case f3_h => k_is)
    (case f3_l => k_is)
    (case f3_c => k_is)
    (case f3_k => k_is)
    (case f4_h => k_is)
    (case f4_l => k_is)
    (case f4_c => k_is)
    (case f4_k => k_is)
    (case f5_h => k_is)
    (case f5_l => k_is)
    (case f5_c => k_is)
    (case f5_k => k_is)
    (case f6_h => k_is)
    (case f6_l => k_is)
    (case f6_c => k_is)
    (case f6_k => k_is)
    (case f7_h => k_is)
    (case f7_l => k_is)
    (case f7_c => k_is)
    (case f7_k => k_is)
    (case f8_h => k_is)
    (case f8_l => k_is)
    (case f8_c => k_is)
    (case f8_k => k_is)
    (case f9_h => k_is)
    (case f9_l => k_is)
    (case f9_c => k_is)
    (case f9_k => k_is)
    (case f10_h => k_is)
    (case f10_l => k_is)
    (case f10_c => k_is)
    (case f10_k => k_is)
    (case f11_h => k_is)
    (case f11_l => k_is)
    (case f11_c => k_is)
    (case f11_k => k_is)
    (case f12_h => k_is)
    (case f12_l => k_is)
    (case f12_c => k_is)
    (case f12_k => k_is)
    (case f13_h => k_is)
    (case f13_l => k_is)
    (case f13_c => k_is)
    (case f13_k => k_is)
    (case f14_h => k_is)
    (case f14_l => k_is)
    (case f14_c => k_is)
    (case f14_k => k_is)
    (case f15_h => k_is)
    (case f15_l => k_is)
    (case f15_c => k_is)
    (case f15_k => k_is)
    (case f16_h => k_is)
    (case f16_l => k_is)
    (case f16_c => k_is)
    (case f16_k => k_is)
    (case f17_h => k_is)
    (case f17_l => k_is)
    (case f17_c => k_is)
    (case f17_k => k_is)
    (case f18_h => k_is)
    (case f18_l => k_is)
    (case f18_c => k_is)
    (case f18_k => k_is)
    (case f19_h => k_is)
    (case f19_l => k_is)
    (case f19_c => k_is)
    (case f19_k => k_is)
    (case f20_h => k_is)
    (case f20_l => k_is)
    (case f20_c => k_is)
    (case f20_k => k_is)
    (case f21_h => k_is)
    (case f21_l => k_is)
    (case f21_c => k_is)
    (case f21_k => k_is)
    (case f22_h => k_is)
    (case f22_l => k_is)
    (case f22_c => k_is)
    (case f22_k => k_is)
    (case f23_h => k_is)
    (case f23_l => k_is)
    (case f23_c => k_is)
    (case f23_k => k_is)
    (case f24_h => k_is)
    (case f24_l => k_is)
    (case f24_c => k_is)
    (case f24_k => k_is)
    (case f25_h => k_is)
    (case f25_l => k_is)
    (case f25_c => k_is)
    (case f25_k => k_is)
    (case q_LARGEST => k_is)
    (case q_LONGEST => k_is)
    (case z_all => k_is)
    (case z_bool => k_is)
    (case z_enumerate => k_is)
    (case z_int => k_is)
    (case z_isinstance => k_is)
    (case z_len => k_is)
    (case z_list => k_is)
    (case z_max => k_is)
    (case z_min => k_is)
    (case z_range => k_is)
    (case z_set => k_is)
    (case z_sorted => k_is)
    (case z_tuple => k_is)
    (case z_zip => k_is)
    (case g_InvalidTimes => k_is)
    (case x_InvalidTimes => k_exc)
    (case k_InvalidTimes => k_is)
    (case s_InvalidTimes => k_is)
    (case t_InvalidTimes => k_is)
    (case g_InvalidWishes => k_is)
    (case x_InvalidWishes => k_exc)
    (case k_InvalidWishes => k_is)
    (case s_InvalidWishes => k_is)
    (case t_InvalidWishes => k_is)
