import PyProof.Rows.All
import Wide.All
import OpenK.AllK
import Wide.FinOn
import HandS.ForMost
import HandS.ForExc
import HandS.DictComp
import HandS.Deep
import HandS.TupAny
import HandS.TupLen
import HandS.IsInst
import HandS.Conv
import HandS.SortInts
import HandS.WideBits
import HandS.SetFor
import HandS.Lambda
import HandS.TupMul
import HandS.Wide
import HandS.Style
import HandS.Small
import HandS.Codes
import HandS.Walk
import HandS.Zip
import KE.GoesEnum
import HandS.ExcValue
import HandS.SortRule
import HandS.TupLe
import KE.KSortTupG
import HandS.Sort
import HandS.More
import HandS.Exc
import HandS.ExcOwn
import HandS.TryOnly
import HandS.WordsExc
import HandS.TryMany
import HandS.EndTab
import KE.KNestM
import KE.KDictPairs
import HandS.Text
import PySem.Challenge.RW_whowins_k19_what_is_no_formula
set_option Elab.async false
set_option linter.all false
set_option maxRecDepth 100000
/-! W3: plain data D over the hand layer: what a value of the heap stands for; own objects in a table. -/
namespace W3
open PySem PySem.Spec PyProof.Rows L2
abbrev Sl := List (Option V)
/-- plain data -/
inductive D where
  | non | bl (b : Bool) | int (i : Int) | str (x : Str) | obj (a : Addr) | ty (n : String)
  | tup (ds : List D) | lst (ds : List D) | ktup (ds : List D) | slst (ds : List D) | ptup (ds : List D)
  | dK (kvs : List (Key × D)) | dT (kvs : List (List Key × D))
/-- a value: data, or a pointer to an own object -/
inductive U where
  | fz (d : D) | ptr (n : Nat)
/-- an own object -/
inductive MO where
  | lst (xs : List U) | dK (kvs : List (Key × U)) | dT (kvs : List (List Key × U)) | tab (n : Nat) (P : Addr) (q : Str) | gone
/-- a tuple of which it is known that it has no dict of its own -/
def PlT (F : Hp) (a : Addr) (vs : List V) : Prop := ∃ o : Obj, o.dict = none ∧ F a = some (.frz o (.tup vs))
mutual
inductive RepD (K : PySem.W.Frag) (F : Hp) : V → D → Prop
  | non : RepD K F .non .non
  | bl (b : Bool) : RepD K F (.bl b) (.bl b)
  | int (i : Int) : RepD K F (.int i) (.int i)
  | str (x : Str) : RepD K F (.str x) (.str x)
  | ty (n : String) : RepD K F (.ty n) (.ty n)
  | obj (a : Addr) : RepD K F (.ref a) (.obj a)
  | tup {a : Addr} {vs : List V} {ds : List D} : F a = some (.tup vs) → RepDs K F vs ds → RepD K F (.ref a) (.tup ds)
  | lst {a : Addr} {vs : List V} {ds : List D} : F a = some (.lst vs) → RepDs K F vs ds → RepD K F (.ref a) (.lst ds)
  | ktup {a : Addr} {vs : List V} {ds : List D} : SqT K F a vs → RepDs K F vs ds → RepD K F (.ref a) (.ktup ds)
  | slst {a : Addr} {vs : List V} {ds : List D} : SqL K F a vs → RepDs K F vs ds → RepD K F (.ref a) (.slst ds)
  | ptup {a : Addr} {vs : List V} {ds : List D} : PlT F a vs → RepDs K F vs ds → RepD K F (.ref a) (.ptup ds)
  | dK {a : Addr} {kvs : List (Key × V)} {kds : List (Key × D)} : Rd F a (.dK kvs) → RepK1 K F kvs kds → RepD K F (.ref a) (.dK kds)
  | dT {a : Addr} {kvs : List (List Key × V)} {kds : List (List Key × D)} : Rd F a (.dT kvs) → RepK2 K F kvs kds → RepD K F (.ref a) (.dT kds)
inductive RepDs (K : PySem.W.Frag) (F : Hp) : List V → List D → Prop
  | nil : RepDs K F [] []
  | cons {v : V} {d : D} {vs : List V} {ds : List D} : RepD K F v d → RepDs K F vs ds → RepDs K F (v :: vs) (d :: ds)
inductive RepK1 (K : PySem.W.Frag) (F : Hp) : List (Key × V) → List (Key × D) → Prop
  | nil : RepK1 K F [] []
  | cons {k : Key} {v : V} {d : D} {vs : List (Key × V)} {ds : List (Key × D)} : RepD K F v d → RepK1 K F vs ds → RepK1 K F ((k, v) :: vs) ((k, d) :: ds)
inductive RepK2 (K : PySem.W.Frag) (F : Hp) : List (List Key × V) → List (List Key × D) → Prop
  | nil : RepK2 K F [] []
  | cons {k : List Key} {v : V} {d : D} {vs : List (List Key × V)} {ds : List (List Key × D)} : RepD K F v d → RepK2 K F vs ds → RepK2 K F ((k, v) :: vs) ((k, d) :: ds)
end
/-- what of F is read stays in F' -/
structure Sub (F F' : Hp) : Prop where
  tup : ∀ a vs, F a = some (.tup vs) → F' a = some (.tup vs)
  lst : ∀ a vs, F a = some (.lst vs) → F' a = some (.lst vs)
  rl : ∀ a vs, Rd F a (.lst vs) → Rd F' a (.lst vs)
  rt : ∀ a vs, Rd F a (.tup vs) → Rd F' a (.tup vs)
  dK : ∀ a kvs, Rd F a (.dK kvs) → Rd F' a (.dK kvs)
  dT : ∀ a kvs, Rd F a (.dT kvs) → Rd F' a (.dT kvs)
  ex : ∀ a φ, F a = some (.ext φ) → F' a = some (.ext φ)
  zt : ∀ a vs, PlT F a vs → PlT F' a vs
theorem Sub.refl (F : Hp) : Sub F F := ⟨fun _ _ h => h, fun _ _ h => h, fun _ _ h => h, fun _ _ h => h, fun _ _ h => h, fun _ _ h => h, fun _ _ h => h, fun _ _ h => h⟩
theorem Sub.trans {F G H : Hp} (a : Sub F G) (b : Sub G H) : Sub F H :=
  ⟨fun x y h => b.tup x y (a.tup x y h), fun x y h => b.lst x y (a.lst x y h), fun x y h => b.rl x y (a.rl x y h), fun x y h => b.rt x y (a.rt x y h), fun x y h => b.dK x y (a.dK x y h), fun x y h => b.dT x y (a.dT x y h), fun x y h => b.ex x y (a.ex x y h), fun x y h => b.zt x y (a.zt x y h)⟩
theorem Rd.sub {F F' : Hp} (h : ∀ a o, F a = some o → F' a = some o) {a : Addr} {u : HO} (r : Rd F a u) : Rd F' a u := by
  rcases r with r | ⟨o, r⟩
  · exact .inl (h _ _ r)
  · exact .inr ⟨o, h _ _ r⟩
theorem Sub.of {F F' : Hp} (h : ∀ a o, F a = some o → F' a = some o) : Sub F F' :=
  ⟨fun _ _ e => h _ _ e, fun _ _ e => h _ _ e, fun _ _ e => Rd.sub h e, fun _ _ e => Rd.sub h e, fun _ _ e => Rd.sub h e, fun _ _ e => Rd.sub h e, fun _ _ e => h _ _ e, fun _ _ ⟨o, d, e⟩ => ⟨o, d, h _ _ e⟩⟩
theorem Sub.new {F : Hp} {p : Addr} {o : HO} (h : F p = none) : Sub F (upd F p o) := Sub.of fun a u e => by rw [upd_ne (ne_of_none e h)]; exact e
theorem Sub.sqT {K : PySem.W.Frag} {F F' : Hp} (s : Sub F F') {a : Addr} {vs : List V} (h : SqT K F a vs) : SqT K F' a vs := by
  rcases h with h | h
  · exact .inl (s.rt _ _ h)
  · exact .inr h
theorem Sub.sqL {K : PySem.W.Frag} {F F' : Hp} (s : Sub F F') {a : Addr} {vs : List V} (h : SqL K F a vs) : SqL K F' a vs := by
  rcases h with h | h
  · exact .inl (s.rl _ _ h)
  · exact .inr h
mutual
theorem RepD.mono {K : PySem.W.Frag} {F F' : Hp} (s : Sub F F') : ∀ {v : V} {d : D}, RepD K F v d → RepD K F' v d
  | _, _, .non => .non
  | _, _, .bl b => .bl b
  | _, _, .int b => .int b
  | _, _, .str b => .str b
  | _, _, .ty b => .ty b
  | _, _, .obj b => .obj b
  | _, _, .tup h r => .tup (s.tup _ _ h) (RepDs.mono s r)
  | _, _, .lst h r => .lst (s.lst _ _ h) (RepDs.mono s r)
  | _, _, .ktup h r => .ktup (s.sqT h) (RepDs.mono s r)
  | _, _, .slst h r => .slst (s.sqL h) (RepDs.mono s r)
  | _, _, .ptup h r => .ptup (s.zt _ _ h) (RepDs.mono s r)
  | _, _, .dK h r => .dK (s.dK _ _ h) (RepK1.mono s r)
  | _, _, .dT h r => .dT (s.dT _ _ h) (RepK2.mono s r)
theorem RepDs.mono {K : PySem.W.Frag} {F F' : Hp} (s : Sub F F') : ∀ {vs : List V} {ds : List D}, RepDs K F vs ds → RepDs K F' vs ds
  | _, _, .nil => .nil
  | _, _, .cons h r => .cons (RepD.mono s h) (RepDs.mono s r)
theorem RepK1.mono {K : PySem.W.Frag} {F F' : Hp} (s : Sub F F') : ∀ {vs : List (Key × V)} {ds : List (Key × D)}, RepK1 K F vs ds → RepK1 K F' vs ds
  | _, _, .nil => .nil
  | _, _, .cons h r => .cons (RepD.mono s h) (RepK1.mono s r)
theorem RepK2.mono {K : PySem.W.Frag} {F F' : Hp} (s : Sub F F') : ∀ {vs : List (List Key × V)} {ds : List (List Key × D)}, RepK2 K F vs ds → RepK2 K F' vs ds
  | _, _, .nil => .nil
  | _, _, .cons h r => .cons (RepD.mono s h) (RepK2.mono s r)
end
/-- a value over the table τ -/
def RepU (K : PySem.W.Frag) (F : Hp) (τ : List Addr) : V → U → Prop
  | v, .fz d => RepD K F v d
  | v, .ptr n => ∃ a, τ[n]? = some a ∧ v = .ref a
theorem RepU.mono {K : PySem.W.Frag} {F F' : Hp} {τ τ' : List Addr} (s : Sub F F') (t : ∃ t, τ' = τ ++ t) {v : V} {u : U} (h : RepU K F τ v u) : RepU K F' τ' v u := by
  cases u with
  | fz d => exact RepD.mono s h
  | ptr n =>
    obtain ⟨a, e, q⟩ := h
    obtain ⟨t, rfl⟩ := t
    refine ⟨a, ?_, q⟩
    obtain ⟨l, _⟩ := List.getElem?_eq_some_iff.mp e
    rw [List.getElem?_append_left l]; exact e
abbrev RepUs (K : PySem.W.Frag) (F : Hp) (τ : List Addr) : List V → List U → Prop := Paired (RepU K F τ)
theorem RepUs.mono {K : PySem.W.Frag} {F F' : Hp} {τ τ' : List Addr} (s : Sub F F') (t : ∃ t, τ' = τ ++ t) : ∀ {vs : List V} {us : List U}, RepUs K F τ vs us → RepUs K F' τ' vs us
  | _, _, .nil => .nil
  | _, _, .cons h r => .cons (RepU.mono s t h) (RepUs.mono s t r)
def RepKU {κ : Type} (K : PySem.W.Frag) (F : Hp) (τ : List Addr) : List (κ × V) → List (κ × U) → Prop := Paired fun p q => p.1 = q.1 ∧ RepU K F τ p.2 q.2
theorem RepKU.mono {κ : Type} {K : PySem.W.Frag} {F F' : Hp} {τ τ' : List Addr} (s : Sub F F') (t : ∃ t, τ' = τ ++ t) : ∀ {vs : List (κ × V)} {us : List (κ × U)}, RepKU K F τ vs us → RepKU K F' τ' vs us
  | _, _, .nil => .nil
  | _, _, .cons h r => .cons ⟨h.1, RepU.mono s t h.2⟩ (RepKU.mono s t r)
/-- an own object and what stands in the heap -/
def RepO (K : PySem.W.Frag) (F : Hp) (τ : List Addr) : HO → MO → Prop
  | .lst vs, .lst us => RepUs K F τ vs us
  | .dK vs, .dK us => RepKU K F τ vs us
  | .dT vs, .dT us => RepKU K F τ vs us
  | .tbl ps, .tab n P q => τ[n]? = some P ∧ TriplesOk ps.toList ∧ (∀ (pos : Pos) (cv : Value), codeAmong pos ps.toList = some cv → ∃ c, cv = .ref c ∧ F c = some (LamX.CodeO c q)) ∧ ∃ c, PySem.W.tabIn K "law" = some (c, P)
  | _, _ => False
theorem RepO.mono {K : PySem.W.Frag} {F F' : Hp} {τ τ' : List Addr} (s : Sub F F') (t : ∃ t, τ' = τ ++ t) : ∀ {o : HO} {m : MO}, RepO K F τ o m → RepO K F' τ' o m := by
  intro o m h
  cases o <;> cases m <;> first | exact h.elim | skip
  · exact RepUs.mono s t h
  · exact RepKU.mono s t h
  · exact RepKU.mono s t h
  · obtain ⟨h1, h2, h3, h4⟩ := h
    obtain ⟨t, rfl⟩ := t
    refine ⟨?_, h2, fun pos cv hc => ?_, h4⟩
    · rw [List.getElem?_append_left (List.getElem?_eq_some_iff.mp h1).1]
      exact h1
    · obtain ⟨c, e1, e2⟩ := h3 pos cv hc
      exact ⟨c, e1, s.ex _ _ e2⟩
theorem RepO.ntbl {K : PySem.W.Frag} {F : Hp} {τ : List Addr} {o : HO} {m : MO} (h : RepO K F τ o m) (n : ∀ n P q, m ≠ .tab n P q) : ∀ ps, o ≠ .tbl ps := fun ps z => by
  subst z
  cases m <;> first | exact h.elim | exact n _ _ _ rfl
theorem RepO.next {K : PySem.W.Frag} {F : Hp} {τ : List Addr} {o : HO} {m : MO} (h : RepO K F τ o m) : ∀ φ, o ≠ .ext φ := fun ps z => by
  subst z
  cases m <;> exact h.elim
def Live (μ : List MO) (n : Nat) : Prop := ∃ m, μ[n]? = some m ∧ m ≠ .gone
/-- the heap: F is read alone, the own objects at τ stand as μ says -/
structure RepH (K : PySem.W.Frag) (F : Hp) (τ : List Addr) (μ : List MO) (H : Hp) : Prop where
  sub : Sub F H
  dom : ∀ a, H a = none → F a = none
  len : τ.length = μ.length
  inj : ∀ (i j : Nat) (a : Addr), τ[i]? = some a → τ[j]? = some a → Live μ i → Live μ j → i = j
  off : ∀ (i : Nat) (a : Addr), τ[i]? = some a → Live μ i → F a = none
  tr : ∀ (i : Nat) (a : Addr), τ[i]? = some a → H a ≠ none
  obj : ∀ (i : Nat) (a : Addr) (m : MO), τ[i]? = some a → μ[i]? = some m → m ≠ .gone → ∃ o, H a = some o ∧ RepO K F τ o m
  nt : ∀ a ps, H a = some (.tbl ps) → F a = none
/-- the slots -/
def RepS (K : PySem.W.Frag) (F : Hp) (τ : List Addr) (ρ : List (Option U)) (σ : Sl) : Prop := ∀ (i : Nat) (u : U), ρ[i]? = some (some u) → ∃ v, σ[i]? = some (some v) ∧ RepU K F τ v u
theorem RepS.mono {K : PySem.W.Frag} {F F' : Hp} {τ τ' : List Addr} (s : Sub F F') (t : ∃ t, τ' = τ ++ t) {ρ : List (Option U)} {σ : Sl} (h : RepS K F τ ρ σ) : RepS K F' τ' ρ σ := fun i u e => by
  obtain ⟨v, q, r⟩ := h i u e
  exact ⟨v, q, r.mono s t⟩
/-- what a run may change -/
structure Ext (F : Hp) (τ : List Addr) (H : Hp) (F' : Hp) (τ' : List Addr) (H' : Hp) : Prop where
  sub : Sub F F'
  pre : ∃ t, τ' = τ ++ t
  fr : ∀ b o, H b = some o → b ∉ τ → (F b = none ∨ ∀ kvs, o ≠ .dT kvs) → H' b = some o
  new : ∀ b, b ∈ τ' → b ∈ τ ∨ H b = none
  nF : ∀ b, F' b ≠ none → F b ≠ none ∨ b ∈ τ ∨ H b = none ∨ ∃ vs, H b = some (.tup vs)
  keep : ∀ b, H' b = none → H b = none
  fz : ∀ b o u, H b = some (.frz o u) → H' b = some (.frz o u)
theorem Ext.refl (F : Hp) (τ : List Addr) (H : Hp) : Ext F τ H F τ H := ⟨.refl F, ⟨[], by simp⟩, fun _ _ e _ _ => e, fun _ h => .inl h, fun _ h => .inl h, fun _ h => h, fun _ _ _ h => h⟩
theorem Ext.trans {F F1 F2 H H1 H2 : Hp} {τ τ1 τ2 : List Addr} (a : Ext F τ H F1 τ1 H1) (b : Ext F1 τ1 H1 F2 τ2 H2) : Ext F τ H F2 τ2 H2 where
  sub := a.sub.trans b.sub
  pre := by
    obtain ⟨t, rfl⟩ := a.pre
    obtain ⟨u, rfl⟩ := b.pre
    exact ⟨t ++ u, by rw [List.append_assoc]⟩
  fr := fun c o e n hq => by
    refine b.fr c o (a.fr c o e n hq) (fun z => ?_) ?_
    · rcases a.new c z with q | q
      · exact n q
      · rw [q] at e; cases e
    · rcases hq with hq | hq
      · cases e1 : F1 c with
        | none => exact .inl rfl
        | some u =>
          rcases a.nF c (by rw [e1]; intro z; cases z) with q | q | q | ⟨vs, q⟩
          · exact absurd hq q
          · exact absurd q n
          · rw [q] at e; cases e
          · rw [q] at e; cases e; exact .inr fun _ z => by cases z
      · exact .inr hq
  new := fun c z => by
    rcases b.new c z with q | q
    · exact a.new c q
    · exact .inr (a.keep c q)
  nF := fun c z => by
    rcases b.nF c z with q | q | q | ⟨vs, q⟩
    · exact a.nF c q
    · rcases a.new c q with r | r
      · exact .inr (.inl r)
      · exact .inr (.inr (.inl r))
    · exact .inr (.inr (.inl (a.keep c q)))
    · by_cases m : c ∈ τ
      · exact .inr (.inl m)
      · cases e : H c with
        | none => exact .inr (.inr (.inl rfl))
        | some o =>
          by_cases hF : F c = none
          · have z := (a.fr c o e m (.inl hF)).symm.trans q
            exact .inr (.inr (.inr ⟨vs, z⟩))
          · exact .inl hF
  keep := fun c z => a.keep c (b.keep c z)
  fz := fun c o u z => b.fz c o u (a.fz c o u z)
theorem Rd.upd_cases {F : Hp} {p a : Addr} {o u : HO} (e : Rd (upd F p o) a u) : (a = p ∧ (o = u ∨ ∃ ob, o = .frz ob u)) ∨ (a ≠ p ∧ Rd F a u) := by
  by_cases q : a = p
  · subst q
    refine .inl ⟨rfl, ?_⟩
    rcases e with e | ⟨ob, e⟩
    · rw [upd_same] at e; exact .inl (Option.some.inj e)
    · rw [upd_same] at e; exact .inr ⟨ob, Option.some.inj e⟩
  · refine .inr ⟨q, ?_⟩
    rcases e with e | ⟨ob, e⟩
    · rw [upd_ne q] at e; exact .inl e
    · rw [upd_ne q] at e; exact .inr ⟨ob, e⟩
theorem Rd.upd_at {F : Hp} {p : Addr} {o u : HO} (e : o = u ∨ ∃ ob, o = .frz ob u) : Rd (upd F p o) p u := by
  rcases e with rfl | ⟨ob, rfl⟩
  · exact .inl upd_same
  · exact .inr ⟨ob, upd_same⟩
theorem Rd.upd_off {F : Hp} {p a : Addr} {o u : HO} (q : a ≠ p) (e : Rd F a u) : Rd (upd F p o) a u := by
  rcases e with e | ⟨ob, e⟩
  · exact .inl (by rw [upd_ne q]; exact e)
  · exact .inr ⟨ob, by rw [upd_ne q]; exact e⟩
theorem upd_cases {F : Hp} {p a : Addr} {o u : HO} (e : upd F p o a = some u) : (a = p ∧ o = u) ∨ (a ≠ p ∧ F a = some u) := by
  by_cases q : a = p
  · subst q; rw [upd_same] at e; exact .inl ⟨rfl, Option.some.inj e⟩
  · rw [upd_ne q] at e; exact .inr ⟨q, e⟩
theorem Sub.both {F H : Hp} {p : Addr} {o : HO} (s : Sub F H) : Sub (upd F p o) (upd H p o) := by
  refine ⟨fun a vs e => ?_, fun a vs e => ?_, fun a vs e => ?_, fun a vs e => ?_, fun a vs e => ?_, fun a vs e => ?_, fun a vs e => ?_, fun a vs ⟨ob, hd, e⟩ => ?_⟩
  · rcases upd_cases e with ⟨rfl, rfl⟩ | ⟨q, e⟩
    · exact upd_same
    · rw [upd_ne q]; exact s.tup _ _ e
  · rcases upd_cases e with ⟨rfl, rfl⟩ | ⟨q, e⟩
    · exact upd_same
    · rw [upd_ne q]; exact s.lst _ _ e
  · rcases Rd.upd_cases e with ⟨rfl, e1⟩ | ⟨q, e1⟩
    · exact Rd.upd_at e1
    · exact Rd.upd_off q (s.rl _ _ e1)
  · rcases Rd.upd_cases e with ⟨rfl, e1⟩ | ⟨q, e1⟩
    · exact Rd.upd_at e1
    · exact Rd.upd_off q (s.rt _ _ e1)
  · rcases Rd.upd_cases e with ⟨rfl, e1⟩ | ⟨q, e1⟩
    · exact Rd.upd_at e1
    · exact Rd.upd_off q (s.dK _ _ e1)
  · rcases Rd.upd_cases e with ⟨rfl, e1⟩ | ⟨q, e1⟩
    · exact Rd.upd_at e1
    · exact Rd.upd_off q (s.dT _ _ e1)
  · rcases upd_cases e with ⟨rfl, rfl⟩ | ⟨q, e⟩
    · exact upd_same
    · rw [upd_ne q]; exact s.ex _ _ e
  · rcases upd_cases e with ⟨rfl, rfl⟩ | ⟨q, e⟩
    · exact ⟨ob, hd, upd_same⟩
    · obtain ⟨ob2, hd2, e2⟩ := s.zt a vs ⟨ob, hd, e⟩
      exact ⟨ob2, hd2, by rw [upd_ne q]; exact e2⟩
/-- a new object, read alone -/
theorem Ext.newF {F H : Hp} {τ : List Addr} {p : Addr} (o : HO) (hF : F p = none) (h : H p = none) : Ext F τ H (upd F p o) τ (upd H p o) where
  sub := Sub.new hF
  pre := ⟨[], by simp⟩
  fr := fun b u e _ _ => by rw [upd_ne (ne_of_none e h)]; exact e
  new := fun _ z => .inl z
  nF := fun b z => by
    by_cases e : b = p
    · subst e; exact .inr (.inr (.inl h))
    · rw [upd_ne e] at z; exact .inl z
  keep := fun b z => by
    by_cases e : b = p
    · subst e; exact h
    · rwa [upd_ne e] at z
  fz := fun b o u z => by rw [upd_ne (ne_of_none z h)]; exact z
theorem RepH.newF {K : PySem.W.Frag} {F H : Hp} {τ : List Addr} {μ : List MO} (r : RepH K F τ μ H) {p : Addr} (o : HO) (h : H p = none) (hnt : ∀ ps, o ≠ .tbl ps := by intro _ z; cases z) : RepH K (upd F p o) τ μ (upd H p o) := by
  have hF := r.dom p h
  have s := Sub.new (o := o) hF
  have mono : Sub (upd F p o) (upd H p o) := Sub.both r.sub
  refine ⟨mono, fun a e => ?_, r.len, r.inj, fun i a e l => ?_, fun i a e => ?_, fun i a m e1 e2 e3 => ?_, fun a ps e => ?_⟩
  · by_cases q : a = p
    · subst q; rw [upd_same] at e; cases e
    · rw [upd_ne q] at e ⊢; exact r.dom a e
  · obtain ⟨m, em, nm⟩ := l
    obtain ⟨ob, eo, _⟩ := r.obj i a m e em nm
    rw [upd_ne (ne_of_none eo h)]
    exact r.off i a e ⟨m, em, nm⟩
  · by_cases q : a = p
    · subst q; rw [upd_same]; intro z; cases z
    · rw [upd_ne q]; exact r.tr i a e
  · obtain ⟨ob, eo, ro⟩ := r.obj i a m e1 e2 e3
    exact ⟨ob, by rw [upd_ne (ne_of_none eo h)]; exact eo, ro.mono s ⟨[], by simp⟩⟩
  · by_cases q : a = p
    · subst q; rw [upd_same] at e; exact absurd (Option.some.inj e) (hnt ps)
    · rw [upd_ne q] at e ⊢; exact r.nt a ps e
end W3
namespace W3
open PySem PySem.Spec PyProof.Rows L2
theorem RepU.fz {K : PySem.W.Frag} {F : Hp} {τ : List Addr} {v : V} {d : D} (h : RepD K F v d) : RepU K F τ v (.fz d) := h
/-! ### judgements over plain data -/
abbrev Rho := List (Option U)
abbrev Mu := List MO
abbrev UK := U → Mu → Prop
abbrev XE := Rho → Mu → UK → Prop
abbrev XT := Rho → Mu → (Bool → Mu → Prop) → Prop
abbrev XA := Rho → Mu → (List U → Mu → Prop) → Prop
structure XEnds where
  nx : Rho → Mu → Prop
  rt : UK
  bk : Rho → Mu → Prop := fun _ _ => False
  ct : Rho → Mu → Prop := fun _ _ => False
abbrev XS := XEnds → Rho → Mu → Prop
theorem PE.mono {X : Cx} {e : Expr} {t t' : TE} (h : PE X e t) (m : ∀ σ H Q, t' σ H Q → t σ H Q) : PE X e t' := ⟨fun pins s σ H Q I q => h.run pins s σ H Q I (m _ _ _ q)⟩
theorem PT.mono {X : Cx} {e : Expr} {t t' : TT} (h : PT X e t) (m : ∀ σ H Q, t' σ H Q → t σ H Q) : PT X e t' := ⟨fun pins s σ H Q I q => h.run pins s σ H Q I (m _ _ _ q)⟩
theorem PW.mono {X : Cx} {e : Expr} {t t' : TT} (h : PW X e t) (m : ∀ σ H Q, t' σ H Q → t σ H Q) : PW X e t' := ⟨fun whole pins s σ H Q I q => h.run whole pins s σ H Q I (m _ _ _ q)⟩
theorem PA.mono {X : Cx} {e : List Expr} {t t' : TA} (h : PA X e t) (m : ∀ σ H Q, t' σ H Q → t σ H Q) : PA X e t' := ⟨fun pos pins s σ H Q I q => h.run pos pins s σ H Q I (m _ _ _ q)⟩
theorem PS.mono {X : Cx} {e : Stmt} {t t' : TS} (h : PS X e t) (m : ∀ D σ H, t' D σ H → t D σ H) : PS X e t' := ⟨fun pins s σ H D I q => h.run pins s σ H D I (m _ _ _ q)⟩
theorem PSs.mono {X : Cx} {e : List Stmt} {t t' : TS} (h : PSs X e t) (m : ∀ D σ H, t' D σ H → t D σ H) : PSs X e t' := ⟨fun pins s σ H D I q => h.run pins s σ H D I (m _ _ _ q)⟩
theorem OpR.mono {X : Cx} {f : Value → Value → Sem Value} {r r' : R2} (h : OpR X f r) (m : ∀ x y H Q, r' x y H Q → r x y H Q) : OpR X f r' := fun pins s σ H x y v u Q I rx ry q => h pins s σ H x y v u Q I rx ry (m _ _ _ _ q)
section
variable (K : PySem.W.Frag)
/-- what is known behind -/
def Ct (F : Hp) (τ : List Addr) (H : Hp) (Q : UK) (R : VK) : Prop := ∀ u v μ' F' τ' H', Ext F τ H F' τ' H' → RepH K F' τ' μ' H' → RepU K F' τ' v u → Q u μ' → R v H'
def CtT (F : Hp) (τ : List Addr) (H : Hp) (Q : Bool → Mu → Prop) (R : Bool → Hp → Prop) : Prop := ∀ b μ' F' τ' H', Ext F τ H F' τ' H' → RepH K F' τ' μ' H' → Q b μ' → R b H'
def CtA (F : Hp) (τ : List Addr) (H : Hp) (Q : List U → Mu → Prop) (R : List V → Hp → Prop) : Prop := ∀ us vs μ' F' τ' H', Ext F τ H F' τ' H' → RepH K F' τ' μ' H' → RepUs K F' τ' vs us → Q us μ' → R vs H'
def CtS (F : Hp) (τ : List Addr) (H : Hp) (Q : Rho → Mu → Prop) (R : Sl → Hp → Prop) : Prop := ∀ ρ' σ' μ' F' τ' H', Ext F τ H F' τ' H' → RepH K F' τ' μ' H' → RepS K F' τ' ρ' σ' → ρ'.length = σ'.length → Q ρ' μ' → R σ' H'
structure CtD (F : Hp) (τ : List Addr) (H : Hp) (E : XEnds) (D : Ends) : Prop where
  nx : CtS K F τ H E.nx D.nx
  rt : Ct K F τ H E.rt D.rt
  bk : CtS K F τ H E.bk D.bk
  ct : CtS K F τ H E.ct D.ct
structure Rep (F : Hp) (τ : List Addr) (ρ : Rho) (μ : Mu) (σ : Sl) (H : Hp) : Prop where
  h : RepH K F τ μ H
  s : RepS K F τ ρ σ
  l : ρ.length = σ.length
def liftE (t : XE) : TE := fun σ H R => ∃ ρ μ F τ Q, Rep K F τ ρ μ σ H ∧ t ρ μ Q ∧ Ct K F τ H Q R
def liftT (t : XT) : TT := fun σ H R => ∃ ρ μ F τ Q, Rep K F τ ρ μ σ H ∧ t ρ μ Q ∧ CtT K F τ H Q R
def liftA (t : XA) : TA := fun σ H R => ∃ ρ μ F τ Q, Rep K F τ ρ μ σ H ∧ t ρ μ Q ∧ CtA K F τ H Q R
def liftS (t : XS) : TS := fun D σ H => ∃ ρ μ F τ E, Rep K F τ ρ μ σ H ∧ t E ρ μ ∧ CtD K F τ H E D
end
section
variable {K : PySem.W.Frag} {F F1 H H1 : Hp} {τ τ1 : List Addr}
theorem Ct.at {Q : UK} {R : VK} (c : Ct K F τ H Q R) (e : Ext F τ H F1 τ1 H1) : Ct K F1 τ1 H1 Q R := fun u v μ' F' τ' H' x r ru q => c u v μ' F' τ' H' (e.trans x) r ru q
theorem CtT.at {Q : Bool → Mu → Prop} {R : Bool → Hp → Prop} (c : CtT K F τ H Q R) (e : Ext F τ H F1 τ1 H1) : CtT K F1 τ1 H1 Q R := fun b μ' F' τ' H' x r q => c b μ' F' τ' H' (e.trans x) r q
theorem CtA.at {Q : List U → Mu → Prop} {R : List V → Hp → Prop} (c : CtA K F τ H Q R) (e : Ext F τ H F1 τ1 H1) : CtA K F1 τ1 H1 Q R := fun b v μ' F' τ' H' x r ru q => c b v μ' F' τ' H' (e.trans x) r ru q
theorem CtS.at {Q : Rho → Mu → Prop} {R : Sl → Hp → Prop} (c : CtS K F τ H Q R) (e : Ext F τ H F1 τ1 H1) : CtS K F1 τ1 H1 Q R := fun b v μ' F' τ' H' x r ru l q => c b v μ' F' τ' H' (e.trans x) r ru l q
theorem CtD.at {E : XEnds} {D : Ends} (c : CtD K F τ H E D) (e : Ext F τ H F1 τ1 H1) : CtD K F1 τ1 H1 E D := ⟨c.nx.at e, c.rt.at e, c.bk.at e, c.ct.at e⟩
theorem Rep.at {ρ : Rho} {μ μ1 : Mu} {σ : Sl} (r : Rep K F τ ρ μ σ H) (e : Ext F τ H F1 τ1 H1) (h : RepH K F1 τ1 μ1 H1) : Rep K F1 τ1 ρ μ1 σ H1 := ⟨h, r.s.mono e.sub e.pre, r.l⟩
theorem RepU.at {v : V} {u : U} (r : RepU K F τ v u) (e : Ext F τ H F1 τ1 H1) : RepU K F1 τ1 v u := r.mono e.sub e.pre
theorem RepUs.at {v : List V} {u : List U} (r : RepUs K F τ v u) (e : Ext F τ H F1 τ1 H1) : RepUs K F1 τ1 v u := r.mono e.sub e.pre
theorem Rep.set {ρ : Rho} {μ : Mu} {σ : Sl} (r : Rep K F τ ρ μ σ H) {i : Nat} {u : U} {v : V} (h : RepU K F τ v u) : Rep K F τ (ρ.set i (some u)) μ (σ.set i (some v)) H := by
  refine ⟨r.h, fun j w e => ?_, by rw [List.length_set, List.length_set]; exact r.l⟩
  by_cases q : i = j
  · subst q
    have hl : i < ρ.length := by
      have := (List.getElem?_eq_some_iff.mp e).1
      rwa [List.length_set] at this
    rw [List.getElem?_set_self hl] at e
    have e' : u = w := Option.some.inj (Option.some.inj e)
    subst e'
    exact ⟨v, List.getElem?_set_self (by rw [← r.l]; exact hl), h⟩
  · rw [List.getElem?_set_ne q] at e
    obtain ⟨w', e1, e2⟩ := r.s j w e
    exact ⟨w', by rw [List.getElem?_set_ne q]; exact e1, e2⟩
end
abbrev QE (X : Cx) (e : Expr) (t : XE) : Prop := PE X e (liftE X.K t)
abbrev QT (X : Cx) (e : Expr) (t : XT) : Prop := PT X e (liftT X.K t)
abbrev QW (X : Cx) (e : Expr) (t : XT) : Prop := PW X e (liftT X.K t)
abbrev QA (X : Cx) (e : List Expr) (t : XA) : Prop := PA X e (liftA X.K t)
abbrev QS (X : Cx) (e : Stmt) (t : XS) : Prop := PS X e (liftS X.K t)
abbrev QSs (X : Cx) (e : List Stmt) (t : XS) : Prop := PSs X e (liftS X.K t)
/-! ### names, constants -/
def wVar (i : Nat) : XE := fun ρ μ Q => match ρ[i]? with
  | some (some u) => Q u μ
  | _ => False
def wC (d : D) : XE := fun _ μ Q => Q (.fz d) μ
section
variable {X : Cx} {a b c : Expr} {ta tb tc : XE} {pos : Pos}
theorem qe_var {i : Nat} {e : Expr} (h : PE X e (tVar i)) : QE X e (wVar i) := PE.mono h fun σ H R ⟨ρ, μ, F, τ, Q, r, q, k⟩ => by
  unfold wVar at q
  split at q
  · rename_i u hu
    obtain ⟨v, e, ru⟩ := r.s _ _ hu
    exact ⟨v, e, k u v μ F τ H (.refl _ _ _) r.h ru q⟩
  · exact q.elim
theorem qe_const {d : D} {v : V} (h : PE X a (tC v)) (r : ∀ F, RepD X.K F v d) : QE X a (wC d) := PE.mono h fun σ H R ⟨ρ, μ, F, τ, Q, rp, q, k⟩ => k (.fz d) v μ F τ H (.refl _ _ _) rp.h (r F) q
theorem qe_int {i j} : QE X (.Constant (.int i) j pos) (wC (.int i)) := qe_const pe_int fun _ => .int i
theorem qe_bl {i j} : QE X (.Constant (.bool i) j pos) (wC (.bl i)) := qe_const pe_bl fun _ => .bl i
theorem qe_non {j} : QE X (.Constant .none j pos) (wC .non) := qe_const pe_non fun _ => .non
theorem qe_str {x j} : QE X (.Constant (.str x) j pos) (wC (.str x)) := qe_const pe_str fun _ => .str x
/-! ### two expressions, an operator -/
abbrev X2 := U → U → Mu → UK → Prop
def liftO (K : PySem.W.Frag) (o : X2) : R2 := fun x y H R => ∃ F τ μ u w Q, RepH K F τ μ H ∧ RepU K F τ x u ∧ RepU K F τ y w ∧ o u w μ Q ∧ Ct K F τ H Q R
abbrev QO (X : Cx) (f : Value → Value → Sem Value) (o : X2) : Prop := OpR X f (liftO X.K o)
def w2 (o : X2) (ta tb : XE) : XE := fun ρ μ Q => ta ρ μ fun u μ1 => tb ρ μ1 fun w μ2 => o u w μ2 Q
theorem two {K : PySem.W.Frag} {r : R2} {o : X2} (m : ∀ x y H R, liftO K o x y H R → r x y H R) {σ : Sl} {H : Hp} {R : VK} (h : liftE K (w2 o ta tb) σ H R) : tOp r (liftE K ta) (liftE K tb) σ H R := by
  obtain ⟨ρ, μ, F, τ, Q, r0, q, k⟩ := h
  refine ⟨ρ, μ, F, τ, _, r0, q, fun u v μ1 F1 τ1 H1 e1 r1 ru q1 => ?_⟩
  refine ⟨ρ, μ1, F1, τ1, _, r0.at e1 r1, q1, fun w y μ2 F2 τ2 H2 e2 r2 rw q2 => ?_⟩
  exact m _ _ _ _ ⟨F2, τ2, μ2, u, w, Q, r2, ru.at e2, rw, q2, k.at (e1.trans e2)⟩
theorem qe_op {op : Operator} {o : X2} (ho : QO X (binaryOp op) o) (ha : QE X a ta) (hb : QE X b tb) : QE X (.BinOp a op b pos) (w2 o ta tb) :=
  PE.mono (pe_op ho ha hb) fun _ _ _ h => two (fun _ _ _ _ z => z) h
theorem qe_cmp {op : CmpOp} {o : X2} (ho : QO X (compareOp op) o) (ha : QE X a ta) (hb : QE X b tb) (hm : behindInMarks op b = false) : QE X (.Compare a [op] [b] pos) (w2 o ta tb) :=
  PE.mono (pe_cmpR ho ha hb hm) fun _ _ _ h => two (fun _ _ _ _ z => z) h
/-- a truth value -/
def wB (ta : XE) : XT := fun ρ μ Q => ta ρ μ fun u μ1 => match u with
  | .fz (.bl b) => Q b μ1
  | _ => False
theorem bl_of {K : PySem.W.Frag} {F : Hp} {τ : List Addr} {v : V} {b : Bool} (r : RepU K F τ v (.fz (.bl b))) : v = .bl b := by
  cases r; rfl
theorem int_of {K : PySem.W.Frag} {F : Hp} {τ : List Addr} {v : V} {b : Int} (r : RepU K F τ v (.fz (.int b))) : v = .int b := by
  cases r; rfl
theorem str_of {K : PySem.W.Frag} {F : Hp} {τ : List Addr} {v : V} {b : Str} (r : RepU K F τ v (.fz (.str b))) : v = .str b := by
  cases r; rfl
theorem liftB {K : PySem.W.Frag} {σ : Sl} {H : Hp} {R : Bool → Hp → Prop} (h : liftT K (wB ta) σ H R) : tTest (liftE K ta) σ H R := by
  obtain ⟨ρ, μ, F, τ, Q, r0, q, k⟩ := h
  refine ⟨ρ, μ, F, τ, _, r0, q, fun u v μ1 F1 τ1 H1 e1 r1 ru q1 => ?_⟩
  split at q1
  · rename_i b
    exact ⟨b, bl_of ru, k b μ1 F1 τ1 H1 e1 r1 q1⟩
  · exact q1.elim
theorem qt_cmp {op : CmpOp} {o : X2} (ho : QO X (compareOp op) o) (ha : QE X a ta) (hb : QE X b tb) (hm : behindInMarks op b = false) : QT X (.Compare a [op] [b] pos) (wB (w2 o ta tb)) :=
  PT.mono (pt_cmpR ho ha hb hm) fun σ H R h => by
    obtain ⟨ρ, μ, F, τ, Q, r0, q, k⟩ := liftB h
    exact two (K := X.K) (o := o) (fun _ _ _ _ z => z) ⟨ρ, μ, F, τ, Q, r0, q, k⟩
theorem qt_val {e : Expr} {t : XE} (h : QE X e t) (he : ∀ whole, isTrue e X.env whole = (do let v ← whole; standAt e.pos; holding [v] (truthy v)) := by intro _; rfl) : QT X e (wB t) :=
  PT.mono (pt_val h he) fun σ H R q => liftB q
variable {tA tB : XT} {rest : List Expr}
def wAnd (t u : XT) : XT := fun ρ μ Q => t ρ μ fun b μ1 => match b with
  | true => u ρ μ1 Q
  | false => Q false μ1
def wOr (t u : XT) : XT := fun ρ μ Q => t ρ μ fun b μ1 => match b with
  | true => Q true μ1
  | false => u ρ μ1 Q
def wNot (t : XT) : XT := fun ρ μ Q => t ρ μ fun b μ1 => Q (!b) μ1
theorem qt_not (ha : QT X a tA) : QT X (.UnaryOp .Not a pos) (wNot tA) := PT.mono (pt_not ha) fun σ H R h => by
  obtain ⟨ρ, μ, F, τ, Q, r0, q, k⟩ := h
  exact ⟨ρ, μ, F, τ, _, r0, q, fun b μ1 F1 τ1 H1 e1 r1 q1 => k (!b) μ1 F1 τ1 H1 e1 r1 q1⟩
theorem qw_and1 (ha : QT X a tA) : QW X (.BoolOp .And [a] pos) tA := pw_and1 ha
theorem qw_or1 (ha : QT X a tA) : QW X (.BoolOp .Or [a] pos) tA := pw_or1 ha
theorem qw_and (ha : QT X a tA) (hb : QW X (.BoolOp .And (b :: rest) pos) tB) : QW X (.BoolOp .And (a :: b :: rest) pos) (wAnd tA tB) := PW.mono (pw_and ha hb) fun σ H R h => by
  obtain ⟨ρ, μ, F, τ, Q, r0, q, k⟩ := h
  refine ⟨ρ, μ, F, τ, _, r0, q, fun b μ1 F1 τ1 H1 e1 r1 q1 => ?_⟩
  cases b with
  | true => exact iteT ⟨ρ, μ1, F1, τ1, Q, r0.at e1 r1, q1, k.at e1⟩
  | false => exact iteF (k false μ1 F1 τ1 H1 e1 r1 q1)
theorem qw_or (ha : QT X a tA) (hb : QW X (.BoolOp .Or (b :: rest) pos) tB) : QW X (.BoolOp .Or (a :: b :: rest) pos) (wOr tA tB) := PW.mono (pw_or ha hb) fun σ H R h => by
  obtain ⟨ρ, μ, F, τ, Q, r0, q, k⟩ := h
  refine ⟨ρ, μ, F, τ, _, r0, q, fun b μ1 F1 τ1 H1 e1 r1 q1 => ?_⟩
  cases b with
  | true => exact iteT (k true μ1 F1 τ1 H1 e1 r1 q1)
  | false => exact iteF ⟨ρ, μ1, F1, τ1, Q, r0.at e1 r1, q1, k.at e1⟩
theorem qt_w (h : QW X a tA) : QT X a tA := PW.pt h
/-- and, or, not as values (truth values) -/
def wAndV (ta tb : XE) : XE := fun ρ μ Q => ta ρ μ fun u μ1 => match u with
  | .fz (.bl true) => tb ρ μ1 Q
  | .fz (.bl false) => Q (.fz (.bl false)) μ1
  | _ => False
def wOrV (ta tb : XE) : XE := fun ρ μ Q => ta ρ μ fun u μ1 => match u with
  | .fz (.bl true) => Q (.fz (.bl true)) μ1
  | .fz (.bl false) => tb ρ μ1 Q
  | _ => False
def wNotV (ta : XE) : XE := fun ρ μ Q => ta ρ μ fun u μ1 => match u with
  | .fz (.bl b) => Q (.fz (.bl (!b))) μ1
  | _ => False
theorem qe_one {op} (h : QE X a ta) : QE X (.BoolOp op [a] pos) ta := pe_one h
theorem qe_and (ha : QE X a ta) (hb : QE X (.BoolOp .And (b :: rest) pos) tb) : QE X (.BoolOp .And (a :: b :: rest) pos) (wAndV ta tb) := PE.mono (pe_and ha hb) fun σ H R h => by
  obtain ⟨ρ, μ, F, τ, Q, r0, q, k⟩ := h
  refine ⟨ρ, μ, F, τ, _, r0, q, fun u v μ1 F1 τ1 H1 e1 r1 ru q1 => ?_⟩
  split at q1
  · exact ⟨true, bl_of ru, iteT ⟨ρ, μ1, F1, τ1, Q, r0.at e1 r1, q1, k.at e1⟩⟩
  · exact ⟨false, bl_of ru, iteF (k _ _ μ1 F1 τ1 H1 e1 r1 (RepU.fz (.bl false)) q1)⟩
  · exact q1.elim
theorem qe_or (ha : QE X a ta) (hb : QE X (.BoolOp .Or (b :: rest) pos) tb) : QE X (.BoolOp .Or (a :: b :: rest) pos) (wOrV ta tb) := PE.mono (pe_or ha hb) fun σ H R h => by
  obtain ⟨ρ, μ, F, τ, Q, r0, q, k⟩ := h
  refine ⟨ρ, μ, F, τ, _, r0, q, fun u v μ1 F1 τ1 H1 e1 r1 ru q1 => ?_⟩
  split at q1
  · exact ⟨true, bl_of ru, iteT (k _ _ μ1 F1 τ1 H1 e1 r1 (RepU.fz (.bl true)) q1)⟩
  · exact ⟨false, bl_of ru, iteF ⟨ρ, μ1, F1, τ1, Q, r0.at e1 r1, q1, k.at e1⟩⟩
  · exact q1.elim
theorem qe_not (ha : QE X a ta) : QE X (.UnaryOp .Not a pos) (wNotV ta) := PE.mono (pe_not ha) fun σ H R h => by
  obtain ⟨ρ, μ, F, τ, Q, r0, q, k⟩ := h
  refine ⟨ρ, μ, F, τ, _, r0, q, fun u v μ1 F1 τ1 H1 e1 r1 ru q1 => ?_⟩
  split at q1
  · rename_i b
    exact ⟨b, bl_of ru, k _ _ μ1 F1 τ1 H1 e1 r1 (RepU.fz (.bl (!b))) q1⟩
  · exact q1.elim
def wIf (t : XT) (ta tb : XE) : XE := fun ρ μ Q => t ρ μ fun b μ1 => match b with
  | true => ta ρ μ1 Q
  | false => tb ρ μ1 Q
theorem qe_ifExp (hc : QT X c tA) (ha : QE X a ta) (hb : QE X b tb) : QE X (.IfExp c a b pos) (wIf tA ta tb) := PE.mono (pe_ifExp hc ha hb) fun σ H R h => by
  obtain ⟨ρ, μ, F, τ, Q, r0, q, k⟩ := h
  refine ⟨ρ, μ, F, τ, _, r0, q, fun b μ1 F1 τ1 H1 e1 r1 q1 => ?_⟩
  cases b with
  | true => exact iteT ⟨ρ, μ1, F1, τ1, Q, r0.at e1 r1, q1, k.at e1⟩
  | false => exact iteF ⟨ρ, μ1, F1, τ1, Q, r0.at e1 r1, q1, k.at e1⟩
/-! ### argument lists, displays -/
def wNil : XA := fun _ μ Q => Q [] μ
def wCons (t : XE) (r : XA) : XA := fun ρ μ Q => t ρ μ fun u μ1 => r ρ μ1 fun us μ2 => Q (u :: us) μ2
theorem qa_nil : QA X [] wNil := PA.mono pa_nil fun σ H R ⟨ρ, μ, F, τ, Q, r0, q, k⟩ => k [] [] μ F τ H (.refl _ _ _) r0.h .nil q
theorem qa_cons {e : Expr} {es : List Expr} {t : XE} {r : XA} (ha : QE X e t) (hr : QA X es r) (hs : starEach (e :: es) X.env = (false, eval e X.env) :: starEach es X.env := by rfl) : QA X (e :: es) (wCons t r) :=
  PA.mono (pa_cons ha hr hs) fun σ H R ⟨ρ, μ, F, τ, Q, r0, q, k⟩ => by
    refine ⟨ρ, μ, F, τ, _, r0, q, fun u v μ1 F1 τ1 H1 e1 r1 ru q1 => ?_⟩
    refine ⟨ρ, μ1, F1, τ1, _, r0.at e1 r1, q1, fun us vs μ2 F2 τ2 H2 e2 r2 rus q2 => ?_⟩
    exact k _ _ μ2 F2 τ2 H2 (e1.trans e2) r2 (.cons (ru.at e2) rus) q2
/-- the data of values; none if there is a pointer -/
def toD : U → Option D
  | .fz d => some d
  | .ptr _ => none
def toDs : List U → Option (List D)
  | [] => some []
  | .fz d :: r => match toDs r with
    | some ds => some (d :: ds)
    | none => none
  | .ptr _ :: _ => none
theorem repDs_of {K : PySem.W.Frag} {F : Hp} {τ : List Addr} : ∀ {vs : List V} {us : List U} {ds : List D}, RepUs K F τ vs us → toDs us = some ds → RepDs K F vs ds
  | _, _, _, .nil, e => by cases e; exact .nil
  | _, .fz d :: r, ds, .cons h t, e => by
    unfold toDs at e
    split at e
    · rename_i ds' e'
      cases e
      exact .cons h (repDs_of t e')
    · cases e
  | _, .ptr _ :: _, _, .cons _ _, e => by cases e
theorem RepDs.length {K : PySem.W.Frag} {F : Hp} : ∀ {vs : List V} {ds : List D}, RepDs K F vs ds → vs.length = ds.length
  | _, _, .nil => rfl
  | _, _, .cons _ r => congrArg (· + 1) (RepDs.length r)
def wTup (t : XA) : XE := fun ρ μ Q => t ρ μ fun us μ1 => match toDs us with
  | some ds => ds.length ≤ sizeLine ∧ Q (.fz (.tup ds)) μ1
  | none => False
theorem new_tup {K : PySem.W.Frag} {F H : Hp} {τ : List Addr} {μ : Mu} {Q : UK} {R : VK} (r : RepH K F τ μ H) (k : Ct K F τ H Q R) {vs : List V} {ds : List D} (h : RepDs K F vs ds) (q : Q (.fz (.tup ds)) μ) : ∀ p, H p = none → R (.ref p) (upd H p (.tup vs)) := fun p hp =>
  k _ _ μ _ τ _ (Ext.newF (.tup vs) (r.dom p hp) hp) (r.newF _ hp) (RepU.fz (.tup upd_same (h.mono (Sub.new (r.dom p hp))))) q
theorem new_lst {K : PySem.W.Frag} {F H : Hp} {τ : List Addr} {μ : Mu} {Q : UK} {R : VK} (r : RepH K F τ μ H) (k : Ct K F τ H Q R) {vs : List V} {ds : List D} (h : RepDs K F vs ds) (q : Q (.fz (.lst ds)) μ) : ∀ p, H p = none → R (.ref p) (upd H p (.lst vs)) := fun p hp =>
  k _ _ μ _ τ _ (Ext.newF (.lst vs) (r.dom p hp) hp) (r.newF _ hp) (RepU.fz (.lst upd_same (h.mono (Sub.new (r.dom p hp))))) q
theorem qe_tup {es : List Expr} {x1} {t : XA} (h : QA X es t) : QE X (.Tuple es x1 pos) (wTup t) := PE.mono (pe_tup h) fun σ H R ⟨ρ, μ, F, τ, Q, r0, q, k⟩ => by
  refine ⟨ρ, μ, F, τ, _, r0, q, fun us vs μ1 F1 τ1 H1 e1 r1 rus q1 => ?_⟩
  split at q1
  · rename_i ds hd
    have rd := repDs_of rus hd
    exact ⟨by rw [rd.length]; exact q1.1, new_tup r1 (k.at e1) rd q1.2⟩
  · exact q1.elim
/-- a new list: read alone, or an own object -/
def mkD (own : Bool) (ds : List D) (μ : Mu) (Q : UK) : Prop := match own with
  | true => Q (.ptr μ.length) (μ ++ [.lst (ds.map .fz)])
  | false => Q (.fz (.lst ds)) μ
theorem Ext.newO {F H : Hp} {τ : List Addr} {p : Addr} (o : HO) (h : H p = none) : Ext F τ H F (τ ++ [p]) (upd H p o) where
  sub := .refl F
  pre := ⟨[p], rfl⟩
  fr := fun b u e _ _ => by rw [upd_ne (ne_of_none e h)]; exact e
  new := fun b z => by
    rcases List.mem_append.mp z with z | z
    · exact .inl z
    · have e : b = p := by simpa using z
      exact .inr (e ▸ h)
  nF := fun b z => .inl z
  keep := fun b z => by
    by_cases e : b = p
    · subst e; exact h
    · rwa [upd_ne e] at z
  fz := fun b o u z => by rw [upd_ne (ne_of_none z h)]; exact z
theorem Rd.ne {H : Hp} {p a : Addr} {u o : HO} (h : H p = none) (r : Rd H a u) : Rd (upd H p o) a u := by
  rcases r with r | ⟨ob, r⟩
  · exact .inl (by rw [upd_ne (ne_of_none r h)]; exact r)
  · exact .inr ⟨ob, by rw [upd_ne (ne_of_none r h)]; exact r⟩
theorem Sub.to_upd {F H : Hp} {p : Addr} {o : HO} (s : Sub F H) (h : H p = none) : Sub F (upd H p o) := s.trans (Sub.new h)
theorem live_snoc {μ : Mu} {m : MO} {i : Nat} (l : Live (μ ++ [m]) i) : (i < μ.length ∧ Live μ i) ∨ i = μ.length := by
  obtain ⟨mo, e, n⟩ := l
  by_cases h : i < μ.length
  · exact .inl ⟨h, mo, by rwa [List.getElem?_append_left h] at e, n⟩
  · have := (List.getElem?_eq_some_iff.mp e).1
    rw [List.length_append, List.length_singleton] at this
    exact .inr (by omega)
theorem RepH.newO {K : PySem.W.Frag} {F H : Hp} {τ : List Addr} {μ : List MO} (r : RepH K F τ μ H) {p : Addr} {o : HO} {m : MO} (h : H p = none) (ro : RepO K F τ o m) : RepH K F (τ ++ [p]) (μ ++ [m]) (upd H p o) := by
  have pre : ∃ t, τ ++ [p] = τ ++ t := ⟨[p], rfl⟩
  have at_ : ∀ (i : Nat) (a : Addr), (τ ++ [p])[i]? = some a → (i < μ.length ∧ τ[i]? = some a) ∨ (i = μ.length ∧ a = p) := fun i a e => by
    by_cases hi : i < τ.length
    · rw [List.getElem?_append_left hi] at e
      exact .inl ⟨by rw [← r.len]; exact hi, e⟩
    · rw [List.getElem?_append_right (by omega)] at e
      have := (List.getElem?_eq_some_iff.mp e).1
      rw [List.length_singleton] at this
      have hz : i - τ.length = 0 := by omega
      rw [hz] at e
      exact .inr ⟨by rw [← r.len]; omega, (Option.some.inj e).symm⟩
  have live_ne : ∀ (i : Nat) (a : Addr), τ[i]? = some a → Live μ i → a ≠ p := fun i a e ⟨mo, em, n⟩ z => by
    obtain ⟨ob, eo, _⟩ := r.obj i a mo e em n
    rw [z, h] at eo
    cases eo
  refine ⟨r.sub.to_upd h, fun a e => ?_, by rw [List.length_append, List.length_append, r.len]; rfl, fun i j a e1 e2 l1 l2 => ?_, fun i a e l => ?_, fun i a e => ?_, fun i a mo e em n => ?_, fun a ps e => ?_⟩
  · by_cases q : a = p
    · subst q; rw [upd_same] at e; cases e
    · rw [upd_ne q] at e; exact r.dom a e
  · rcases at_ i a e1 with ⟨h1, q1⟩ | ⟨h1, q1⟩
    · rcases at_ j a e2 with ⟨h2, q2⟩ | ⟨h2, q2⟩
      · rcases live_snoc l1 with ⟨_, l1⟩ | l1
        · rcases live_snoc l2 with ⟨_, l2⟩ | l2
          · exact r.inj i j a q1 q2 l1 l2
          · omega
        · omega
      · rcases live_snoc l1 with ⟨_, l1⟩ | l1
        · exact absurd q2 (live_ne i a q1 l1)
        · omega
    · rcases at_ j a e2 with ⟨h2, q2⟩ | ⟨h2, q2⟩
      · rcases live_snoc l2 with ⟨_, l2⟩ | l2
        · exact absurd q1 (live_ne j a q2 l2)
        · omega
      · omega
  · rcases at_ i a e with ⟨h1, q1⟩ | ⟨h1, q1⟩
    · rcases live_snoc l with ⟨_, l⟩ | l
      · exact r.off i a q1 l
      · omega
    · rw [q1]; exact r.dom p h
  · by_cases q : a = p
    · subst q; rw [upd_same]; intro z; cases z
    · rw [upd_ne q]
      rcases at_ i a e with ⟨h1, q1⟩ | ⟨h1, q1⟩
      · exact r.tr i a q1
      · exact absurd q1 q
  · rcases at_ i a e with ⟨h1, q1⟩ | ⟨h1, q1⟩
    · rw [List.getElem?_append_left h1] at em
      obtain ⟨ob, eo, ro'⟩ := r.obj i a mo q1 em n
      exact ⟨ob, by rw [upd_ne (ne_of_none eo h)]; exact eo, ro'.mono (.refl F) pre⟩
    · subst h1 q1
      rw [List.getElem?_append_right (Nat.le_refl _), Nat.sub_self] at em
      have em' : m = mo := Option.some.inj em
      subst em'
      exact ⟨o, upd_same, ro.mono (.refl F) pre⟩
  · by_cases q : a = p
    · subst q; exact r.dom a h
    · rw [upd_ne q] at e; exact r.nt a ps e
theorem new_own {K : PySem.W.Frag} {F H : Hp} {τ : List Addr} {μ : Mu} {Q : UK} {R : VK} (r : RepH K F τ μ H) (k : Ct K F τ H Q R) {o : HO} {m : MO} (ro : RepO K F τ o m) (q : Q (.ptr μ.length) (μ ++ [m])) : ∀ p, H p = none → R (.ref p) (upd H p o) := fun p hp =>
  k (.ptr μ.length) (.ref p) _ F _ _ (Ext.newO o hp) (r.newO hp ro) ⟨p, by rw [← r.len, List.getElem?_append_right (Nat.le_refl _), Nat.sub_self]; rfl, rfl⟩ q
theorem repUs_ofD {K : PySem.W.Frag} {F : Hp} {τ : List Addr} : ∀ {vs : List V} {ds : List D}, RepDs K F vs ds → RepUs K F τ vs (ds.map .fz)
  | _, _, .nil => .nil
  | _, _, .cons h r => .cons (RepU.fz h) (repUs_ofD r)
theorem new_D {K : PySem.W.Frag} {F H : Hp} {τ : List Addr} {μ : Mu} {Q : UK} {R : VK} {own : Bool} (r : RepH K F τ μ H) (k : Ct K F τ H Q R) {vs : List V} {ds : List D} (h : RepDs K F vs ds) (q : mkD own ds μ Q) : ∀ p, H p = none → R (.ref p) (upd H p (.lst vs)) := by
  cases own with
  | true => exact new_own r k (show RepO K F τ (.lst vs) (.lst (ds.map .fz)) from repUs_ofD h) q
  | false => exact new_lst r k h q
/-- a list display: read alone, or an own object -/
def wLst (own : Bool) (t : XA) : XE := fun ρ μ Q => t ρ μ fun us μ1 => match own with
  | true => us.length ≤ sizeLine ∧ Q (.ptr μ1.length) (μ1 ++ [.lst us])
  | false => match toDs us with
    | some ds => ds.length ≤ sizeLine ∧ Q (.fz (.lst ds)) μ1
    | none => False
theorem qe_lst {es : List Expr} {t : XA} (own : Bool) (h : QA X es t) : QE X (.List es pos) (wLst own t) := PE.mono (pe_lst h) fun σ H R ⟨ρ, μ, F, τ, Q, r0, q, k⟩ => by
  refine ⟨ρ, μ, F, τ, _, r0, q, fun us vs μ1 F1 τ1 H1 e1 r1 rus q1 => ?_⟩
  cases own with
  | true =>
    have hl : vs.length = us.length := Paired.length rus
    exact ⟨by rw [hl]; exact q1.1, new_own r1 (k.at e1) (show RepO X.K F1 τ1 (.lst vs) (.lst us) from rus) q1.2⟩
  | false =>
    have q1' : (match toDs us with
      | some ds => ds.length ≤ sizeLine ∧ Q (.fz (.lst ds)) μ1
      | none => False) := q1
    split at q1'
    · rename_i ds hd
      have rd := repDs_of rus hd
      exact ⟨by rw [rd.length]; exact q1'.1, new_lst r1 (k.at e1) rd q1'.2⟩
    · exact q1'.elim
end
end W3
namespace W3
open PySem PySem.Spec PyProof.Rows L2
section
variable {X : Cx} {st : Stmt} {rest : List Stmt} {t u : XS} {e : Expr} {te : XE} {pos : Pos}
/-! ### blocks and plain statements -/
def wNext : XS := fun E ρ μ => E.nx ρ μ
def wSeq (t u : XS) : XS := fun E ρ μ => t { E with nx := u E } ρ μ
def wBreak : XS := fun E ρ μ => E.bk ρ μ
def wCont : XS := fun E ρ μ => E.ct ρ μ
def wDrop (te : XE) : XS := fun E ρ μ => te ρ μ fun _ μ1 => E.nx ρ μ1
def wRet (te : XE) : XS := fun E ρ μ => te ρ μ E.rt
def wRetN : XS := fun E _ μ => E.rt (.fz .non) μ
def wIfS (c : XT) (t u : XS) : XS := fun E ρ μ => c ρ μ fun b μ1 => match b with
  | true => t E ρ μ1
  | false => u E ρ μ1
def wNever : XS := fun _ _ _ => False
theorem Rep.nx {K : PySem.W.Frag} {F H : Hp} {τ : List Addr} {ρ : Rho} {μ : Mu} {σ : Sl} {E : XEnds} {D : Ends} (r : Rep K F τ ρ μ σ H) (c : CtD K F τ H E D) (q : E.nx ρ μ) : D.nx σ H := c.nx ρ σ μ F τ H (.refl _ _ _) r.h r.s r.l q
theorem qss_nil : QSs X [] wNext := PSs.mono pss_nil fun D σ H ⟨ρ, μ, F, τ, E, r, q, c⟩ => r.nx c q
theorem qss_cons (h1 : QS X st t) (h2 : QSs X rest u) : QSs X (st :: rest) (wSeq t u) := PSs.mono (pss_cons h1 h2) fun D σ H ⟨ρ, μ, F, τ, E, r, q, c⟩ =>
  ⟨ρ, μ, F, τ, _, r, q, ⟨fun ρ' σ' μ' F' τ' H' e rh rs l q' => ⟨ρ', μ', F', τ', E, ⟨rh, rs, l⟩, q', c.at e⟩, c.rt, c.bk, c.ct⟩⟩
theorem qss_one (h1 : QS X st t) : QSs X [st] t := pss_one h1
theorem qs_pass : QS X (.Pass pos) wNext := PS.mono ps_pass fun D σ H ⟨ρ, μ, F, τ, E, r, q, c⟩ => r.nx c q
theorem qs_break : QS X (.Break pos) wBreak := PS.mono ps_break fun D σ H ⟨ρ, μ, F, τ, E, r, q, c⟩ => c.bk ρ σ μ F τ H (.refl _ _ _) r.h r.s r.l q
theorem qs_continue : QS X (.Continue pos) wCont := PS.mono ps_continue fun D σ H ⟨ρ, μ, F, τ, E, r, q, c⟩ => c.ct ρ σ μ F τ H (.refl _ _ _) r.h r.s r.l q
theorem qs_never : QS X st wNever := PS.mono ps_never fun D σ H ⟨ρ, μ, F, τ, E, r, q, c⟩ => q
theorem qss_never : QSs X rest wNever := PSs.mono pss_never fun D σ H ⟨ρ, μ, F, τ, E, r, q, c⟩ => q
theorem qs_expr (he : QE X e te) (hs : swapsWith e none pos.line X.env = pure false := by rfl) : QS X (.Expr e pos) (wDrop te) := PS.mono (ps_expr he hs) fun D σ H ⟨ρ, μ, F, τ, E, r, q, c⟩ =>
  ⟨ρ, μ, F, τ, _, r, q, fun u v μ' F' τ' H' x rh ru q' => (r.at x rh).nx (c.at x) q'⟩
theorem qs_ret (he : QE X e te) : QS X (.Return (some e) pos) (wRet te) := PS.mono (ps_ret he) fun D σ H ⟨ρ, μ, F, τ, E, r, q, c⟩ => ⟨ρ, μ, F, τ, _, r, q, c.rt⟩
theorem qs_retN : QS X (.Return none pos) wRetN := PS.mono ps_retN fun D σ H ⟨ρ, μ, F, τ, E, r, q, c⟩ => c.rt _ _ μ F τ H (.refl _ _ _) r.h (RepU.fz .non) q
theorem qs_if {c : Expr} {a b : List Stmt} {tc : XT} (hc : QT X c tc) (ha : QSs X a t) (hb : QSs X b u) : QS X (.If c a b pos) (wIfS tc t u) := PS.mono (ps_if hc ha hb) fun D σ H ⟨ρ, μ, F, τ, E, r, q, k⟩ => by
  refine ⟨ρ, μ, F, τ, _, r, q, fun b μ' F' τ' H' x rh q' => ?_⟩
  cases b with
  | true => exact iteT ⟨ρ, μ', F', τ', E, r.at x rh, q', k.at x⟩
  | false => exact iteF ⟨ρ, μ', F', τ', E, r.at x rh, q', k.at x⟩
/-! ### targets -/
abbrev XG := U → Rho → Mu → (Rho → Mu → Prop) → Prop
abbrev XGs := List U → Rho → Mu → (Rho → Mu → Prop) → Prop
def liftG (K : PySem.W.Frag) (t : XG) : TG := fun v σ H R => ∃ u ρ μ F τ Q, Rep K F τ ρ μ σ H ∧ RepU K F τ v u ∧ t u ρ μ Q ∧ CtS K F τ H Q R
def liftGs (K : PySem.W.Frag) (t : XGs) : TGs := fun vs σ H R => ∃ us ρ μ F τ Q, Rep K F τ ρ μ σ H ∧ RepUs K F τ vs us ∧ t us ρ μ Q ∧ CtS K F τ H Q R
theorem PG.mono {tg : Expr} {t t' : TG} (h : PG X tg t) (m : ∀ v σ H Q, t' v σ H Q → t v σ H Q) : PG X tg t' := ⟨fun pins s σ H v u Q I r q => h.run pins s σ H v u Q I r (m _ _ _ _ q)⟩
theorem PGs.mono {tg : List Expr} {t t' : TGs} (h : PGs X tg t) (m : ∀ v σ H Q, t' v σ H Q → t v σ H Q) : PGs X tg t' := ⟨fun pins s σ H v u Q I r q => h.run pins s σ H v u Q I r (m _ _ _ _ q)⟩
abbrev QG (X : Cx) (tg : Expr) (t : XG) : Prop := PG X tg (liftG X.K t)
abbrev QGs (X : Cx) (tg : List Expr) (t : XGs) : Prop := PGs X tg (liftGs X.K t)
def gSet (i : Nat) : XG := fun u ρ μ Q => Q (ρ.set i (some u)) μ
theorem qg_name {i : Nat} {tg : Expr} (h : PG X tg (gName i)) : QG X tg (gSet i) := PG.mono h fun v σ H R ⟨u, ρ, μ, F, τ, Q, r, ru, q, c⟩ =>
  c _ _ μ F τ H (.refl _ _ _) r.h (r.set ru).s (r.set ru).l q
def gNilX : XGs := fun us ρ μ Q => match us with
  | [] => Q ρ μ
  | _ :: _ => False
def gConsX (t : XG) (r : XGs) : XGs := fun us ρ μ Q => match us with
  | [] => False
  | u :: us => t u ρ μ fun ρ1 μ1 => r us ρ1 μ1 Q
theorem qgs_nil : QGs X [] gNilX := PGs.mono pgs_nil fun vs σ H R ⟨us, ρ, μ, F, τ, Q, r, ru, q, c⟩ => by
  cases ru with
  | nil => exact ⟨rfl, c ρ σ μ F τ H (.refl _ _ _) r.h r.s r.l q⟩
  | cons _ _ => exact q.elim
theorem qgs_cons {es : List Expr} {t : XG} {w : XGs} (h1 : QG X e t) (h2 : QGs X es w)
    (hs : (assignEach (e :: es) X.env).map (·.2) = assign e X.env :: (assignEach es X.env).map (·.2) := by rfl) : QGs X (e :: es) (gConsX t w) := PGs.mono (pgs_cons h1 h2 hs) fun vs σ H R ⟨us, ρ, μ, F, τ, Q, r, ru, q, c⟩ => by
  cases ru with
  | nil => exact q.elim
  | cons h hr =>
    refine ⟨_, _, rfl, _, ρ, μ, F, τ, _, r, h, q, fun ρ' σ' μ' F' τ' H' x rh rs l q' => ?_⟩
    exact ⟨_, ρ', μ', F', τ', Q, ⟨rh, rs, l⟩, RepUs.at hr x, q', c.at x⟩
def gTupX (n : Nat) (t : XGs) : XG := fun u ρ μ Q => match u with
  | .fz (.tup ds) => ds.length = n ∧ t (ds.map .fz) ρ μ Q
  | _ => False
theorem sqT_of {K : PySem.W.Frag} {F H : Hp} {a : Addr} {vs : List V} (s : Sub F H) (h : F a = some (.tup vs)) : SqT K H a vs := .inl (.inl (s.tup _ _ h))
theorem sqL_of {K : PySem.W.Frag} {F H : Hp} {a : Addr} {vs : List V} (s : Sub F H) (h : F a = some (.lst vs)) : SqL K H a vs := .inl (.inl (s.lst _ _ h))
theorem tup_of {K : PySem.W.Frag} {F : Hp} {τ : List Addr} {v : V} {ds : List D} (h : RepU K F τ v (.fz (.tup ds))) : ∃ a vs, v = .ref a ∧ F a = some (.tup vs) ∧ RepDs K F vs ds := by
  cases h with
  | tup h r => exact ⟨_, _, rfl, h, r⟩
theorem lst_of {K : PySem.W.Frag} {F : Hp} {τ : List Addr} {v : V} {ds : List D} (h : RepU K F τ v (.fz (.lst ds))) : ∃ a vs, v = .ref a ∧ F a = some (.lst vs) ∧ RepDs K F vs ds := by
  cases h with
  | lst h r => exact ⟨_, _, rfl, h, r⟩
theorem slst_of {K : PySem.W.Frag} {F : Hp} {τ : List Addr} {v : V} {ds : List D} (h : RepU K F τ v (.fz (.slst ds))) : ∃ a vs, v = .ref a ∧ SqL K F a vs ∧ RepDs K F vs ds := by
  cases h with
  | slst h r => exact ⟨_, _, rfl, h, r⟩
theorem ktup_of {K : PySem.W.Frag} {F : Hp} {τ : List Addr} {v : V} {ds : List D} (h : RepU K F τ v (.fz (.ktup ds))) : ∃ a vs, v = .ref a ∧ SqT K F a vs ∧ RepDs K F vs ds := by
  cases h with
  | ktup h r => exact ⟨_, _, rfl, h, r⟩
theorem qg_tup {es : List Expr} {k : Nat} {t : XGs} {n : Nat} (hc : X.calm = true) (h : QGs X es t) (hn : (assignEach es X.env).length = n := by rfl) (hst : (assignEach es X.env).findIdx? (·.1) = none := by rfl) : QG X (.Tuple es k pos) (gTupX n t) :=
  PG.mono (pg_tup hc h hn hst) fun v σ H R ⟨u, ρ, μ, F, τ, Q, r, ru, q, c⟩ => by
    unfold gTupX at q
    split at q
    · obtain ⟨a, vs, rfl, ha, hd⟩ := tup_of ru
      exact ⟨a, vs, rfl, sqT_of r.h.sub ha, by rw [hd.length]; exact q.1, _, ρ, μ, F, τ, Q, r, repUs_ofD hd, q.2, c⟩
    · exact q.elim
/-! ### assignment -/
def wAsg (te : XE) (g : XG) : XS := fun E ρ μ => te ρ μ fun u μ1 => g u ρ μ1 E.nx
theorem asg {K : PySem.W.Frag} {g : XG} {D : Ends} {σ : Sl} {H : Hp} (h : liftS K (wAsg te g) D σ H) : tAsg (liftE K te) (liftG K g) D σ H := by
  obtain ⟨ρ, μ, F, τ, E, r, q, c⟩ := h
  exact ⟨ρ, μ, F, τ, _, r, q, fun u v μ' F' τ' H' x rh ru q' => ⟨u, ρ, μ', F', τ', _, r.at x rh, ru, q', (c.at x).nx⟩⟩
theorem qs_asg {tg : Expr} {g : XG} (he : QE X e te) (hg : QG X tg g) (hs : swapsWithSole [tg] e pos.line X.env = pure false := by rfl) (hw : swappedStores [tg] e X.env = pure none := by rfl)
    (h1 : (assignEach [tg] X.env).map (·.2) = [assign tg X.env] := by rfl) : QS X (.Assign [tg] e pos) (wAsg te g) := PS.mono (ps_asg he hg hs hw h1) fun D σ H h => asg h
/-- name = value -/
def wSet (i : Nat) (te : XE) : XS := fun E ρ μ => te ρ μ fun u μ1 => E.nx (ρ.set i (some u)) μ1
theorem setx {K : PySem.W.Frag} {i : Nat} {D : Ends} {σ : Sl} {H : Hp} (h : liftS K (wSet i te) D σ H) : tAsg (liftE K te) (gName i) D σ H := by
  obtain ⟨ρ, μ, F, τ, E, r, q, c⟩ := h
  exact ⟨ρ, μ, F, τ, _, r, q, fun u v μ' F' τ' H' x rh ru q' => ((r.at x rh).set ru).nx (c.at x) q'⟩
theorem qs_set {i : Nat} (h : ∀ {t : TE}, PE X e t → PS X st (tAsg t (gName i))) (he : QE X e te) : QS X st (wSet i te) := PS.mono (h he) fun D σ H q => setx q
/-! ### while -/
/-- slots that hold a pointer from m on are forgotten -/
def fgt (m : Nat) : Option U → Option U
  | some (.ptr n) => if n < m then some (.ptr n) else none
  | o => o
def clean (m : Nat) (ρ : Rho) : Rho := ρ.map (fgt m)
def okU (m : Nat) : U → Bool
  | .ptr n => decide (n < m)
  | .fz _ => true
def okM (m : Nat) : MO → Bool
  | .lst us => us.all (okU m)
  | .dK us => us.all fun p => okU m p.2
  | .dT us => us.all fun p => okU m p.2
  | .tab n _ _ => decide (n < m)
  | .gone => true
theorem okU_rep {K : PySem.W.Frag} {F : Hp} {τ : List Addr} {m : Nat} {v : V} {u : U} (h : RepU K F τ v u) (o : okU m u = true) : RepU K F (τ.take m) v u := by
  cases u with
  | fz d => exact h
  | ptr n =>
    obtain ⟨a, e, q⟩ := h
    have hn : n < m := of_decide_eq_true o
    exact ⟨a, by rw [List.getElem?_take_of_lt hn]; exact e, q⟩
theorem okUs_rep {K : PySem.W.Frag} {F : Hp} {τ : List Addr} {m : Nat} : ∀ {vs : List V} {us : List U}, RepUs K F τ vs us → us.all (okU m) = true → RepUs K F (τ.take m) vs us
  | _, _, .nil, _ => .nil
  | _, _, .cons h r, o => by
    rw [List.all_cons, Bool.and_eq_true] at o
    exact .cons (okU_rep h o.1) (okUs_rep r o.2)
theorem okKU_rep {κ : Type} {K : PySem.W.Frag} {F : Hp} {τ : List Addr} {m : Nat} : ∀ {vs : List (κ × V)} {us : List (κ × U)}, RepKU K F τ vs us → us.all (fun p => okU m p.2) = true → RepKU K F (τ.take m) vs us
  | _, _, .nil, _ => .nil
  | _, _, .cons h r, o => by
    rw [List.all_cons, Bool.and_eq_true] at o
    exact .cons ⟨h.1, okU_rep h.2 o.1⟩ (okKU_rep r o.2)
theorem okM_rep {K : PySem.W.Frag} {F : Hp} {τ : List Addr} {m : Nat} {o : HO} {mo : MO} (h : RepO K F τ o mo) (k : okM m mo = true) : RepO K F (τ.take m) o mo := by
  cases o <;> cases mo <;> first | exact h.elim | skip
  · exact okUs_rep h k
  · exact okKU_rep h k
  · exact okKU_rep h k
  · obtain ⟨h1, h2, h3⟩ := h
    exact ⟨by rw [List.getElem?_take_of_lt (of_decide_eq_true k)]; exact h1, h2, h3⟩
theorem Rep.trim {K : PySem.W.Frag} {F H : Hp} {τ : List Addr} {ρ : Rho} {μ : Mu} {σ : Sl} {k : Nat} (r : Rep K F τ ρ μ σ H) (hk : (μ.take k).all (okM k) = true) : Rep K F (τ.take k) (clean k ρ) (μ.take k) σ H := by
  have lv : ∀ i : Nat, Live (μ.take k) i → i < k ∧ Live μ i := fun i ⟨m, e, n⟩ => by
    have hi : i < k := by
      have := (List.getElem?_eq_some_iff.mp e).1
      rw [List.length_take] at this
      omega
    rw [List.getElem?_take_of_lt hi] at e
    exact ⟨hi, m, e, n⟩
  have tk : ∀ (i : Nat) (a : Addr), (τ.take k)[i]? = some a → τ[i]? = some a := fun i a e => by
    have hi : i < k := by
      have := (List.getElem?_eq_some_iff.mp e).1
      rw [List.length_take] at this
      omega
    rwa [List.getElem?_take_of_lt hi] at e
  refine ⟨⟨r.h.sub, r.h.dom, by rw [List.length_take, List.length_take, r.h.len], fun i j a e1 e2 l1 l2 => r.h.inj i j a (tk i a e1) (tk j a e2) (lv i l1).2 (lv j l2).2, fun i a e l => r.h.off i a (tk i a e) (lv i l).2, fun i a e => r.h.tr i a (tk i a e), fun i a m e1 e2 n => ?_, r.h.nt⟩, fun i u e => ?_, by unfold clean; rw [List.length_map]; exact r.l⟩
  · obtain ⟨hi, _⟩ := lv i ⟨m, e2, n⟩
    have e2' := e2
    rw [List.getElem?_take_of_lt hi] at e2
    obtain ⟨o, eo, ro⟩ := r.h.obj i a m (tk i a e1) e2 n
    refine ⟨o, eo, okM_rep ro ?_⟩
    exact List.all_eq_true.mp hk m (List.mem_of_getElem? e2')
  · unfold clean at e
    rw [List.getElem?_map] at e
    cases q : ρ[i]? with
    | none => rw [q] at e; cases e
    | some o =>
      rw [q] at e
      have e' : fgt k o = some u := Option.some.inj e
      cases o with
      | none => cases e'
      | some w =>
        cases w with
        | fz d =>
          cases e'
          exact r.s i _ q
        | ptr n =>
          unfold fgt at e'
          by_cases hn : n < k
          · simp only [hn, if_true] at e'
            cases e'
            obtain ⟨v, e1, r1⟩ := r.s i _ q
            exact ⟨v, e1, okU_rep r1 (decide_eq_true hn)⟩
          · simp only [hn, if_false] at e'
            cases e'
theorem Ext.trim {F F1 H H1 : Hp} {τ τ1 : List Addr} (e : Ext F τ H F1 τ1 H1) {k : Nat} (hk : τ.length ≤ k) : Ext F τ H F1 (τ1.take k) H1 := by
  refine ⟨e.sub, ?_, e.fr, fun b z => e.new b (List.mem_of_mem_take z), e.nF, e.keep, e.fz⟩
  obtain ⟨t, rfl⟩ := e.pre
  exact ⟨t.take (k - τ.length), by rw [List.take_append, List.take_of_length_le hk]⟩
/-- behind a turn: the state as it is, or without the own objects from k on -/
def tidy (k : Nat) (W : Rho → Mu → Prop) (ρ : Rho) (μ : Mu) : Prop := W ρ μ ∨ ((μ.take k).all (okM k) = true ∧ W (clean k ρ) (μ.take k))
theorem tidy_rep {K : PySem.W.Frag} {F F1 H H1 : Hp} {τ τ1 : List Addr} {ρ : Rho} {μ : Mu} {σ : Sl} {k : Nat} {W : Rho → Mu → Prop} (e : Ext F τ H F1 τ1 H1) (hk : τ.length ≤ k) (r : Rep K F1 τ1 ρ μ σ H1) (t : tidy k W ρ μ) :
    ∃ τ2 ρ2 μ2, Ext F τ H F1 τ2 H1 ∧ Rep K F1 τ2 ρ2 μ2 σ H1 ∧ W ρ2 μ2 := by
  rcases t with t | ⟨h, t⟩
  · exact ⟨τ1, ρ, μ, e, r, t⟩
  · exact ⟨_, _, _, e.trim hk, r.trim h, t⟩
/-- a while: the invariant with its measure -/
def wWhile (c : XT) (tb : XS) : XS := fun E ρ μ => ∃ W : Nat → Rho → Mu → Prop, (∃ m, W m ρ μ) ∧ ∀ m ρ1 μ1, W m ρ1 μ1 → c ρ1 μ1 fun b μ2 => match b with
  | true => tb { E with nx := tidy μ.length fun ρ3 μ3 => ∃ m', m' < m ∧ W m' ρ3 μ3, ct := tidy μ.length fun ρ3 μ3 => ∃ m', m' < m ∧ W m' ρ3 μ3, bk := E.nx } ρ1 μ2
  | false => E.nx ρ1 μ2
theorem qs_while {c : Expr} {body : List Stmt} {tc : XT} {tb : XS} (hp : PassesOwn (model X.prog X.w) X.A X.env X.xe) (hc : QT X c tc) (hb : QSs X body tb) : QS X (.While c body [] pos) (wWhile tc tb) := PS.mono (ps_while hp hc hb) fun D σ H ⟨ρ, μ, F, τ, E, r, q, k⟩ => by
  obtain ⟨W, ⟨m, w0⟩, turn⟩ := q
  have hτ : τ.length ≤ μ.length := Nat.le_of_eq r.h.len
  refine ⟨fun m σ1 H1 => ∃ ρ1 μ1 F1 τ1, Ext F τ H F1 τ1 H1 ∧ Rep X.K F1 τ1 ρ1 μ1 σ1 H1 ∧ W m ρ1 μ1, ⟨m, ρ, μ, F, τ, .refl _ _ _, r, w0⟩, fun m σ1 H1 ⟨ρ1, μ1, F1, τ1, x1, r1, w1⟩ => ?_⟩
  refine ⟨ρ1, μ1, F1, τ1, _, r1, turn m ρ1 μ1 w1, fun b μ2 F2 τ2 H2 x2 rh2 q2 => ?_⟩
  have k2 := k.at (x1.trans x2)
  cases b with
  | false => exact iteF ((r1.at x2 rh2).nx k2 q2)
  | true =>
    refine iteT ⟨fun σ3 H3 => ∃ ρ3 μ3 F3 τ3, Ext F τ H F3 τ3 H3 ∧ Rep X.K F3 τ3 ρ3 μ3 σ3 H3 ∧ ∃ m', m' < m ∧ W m' ρ3 μ3, fun σ3 H3 ⟨ρ3, μ3, F3, τ3, x3, r3, m', hm, w3⟩ => ⟨m', hm, ρ3, μ3, F3, τ3, x3, r3, w3⟩, ?_⟩
    have fin : CtS X.K F2 τ2 H2 (tidy μ.length fun ρ3 μ3 => ∃ m', m' < m ∧ W m' ρ3 μ3) (fun σ3 H3 => ∃ ρ3 μ3 F3 τ3, Ext F τ H F3 τ3 H3 ∧ Rep X.K F3 τ3 ρ3 μ3 σ3 H3 ∧ ∃ m', m' < m ∧ W m' ρ3 μ3) := fun ρ3 σ3 μ3 F3 τ3 H3 x3 rh3 rs3 l3 t3 => by
      obtain ⟨τ4, ρ4, μ4, x4, r4, w4⟩ := tidy_rep (x1.trans (x2.trans x3)) hτ ⟨rh3, rs3, l3⟩ t3
      exact ⟨ρ4, μ4, F3, τ4, x4, r4, w4⟩
    exact ⟨ρ1, μ2, F2, τ2, _, r1.at x2 rh2, q2, ⟨fin, k2.rt, k2.nx, fin⟩⟩
/-! ### what a for walks: the items, known ahead -/
abbrev XI := Rho → Mu → (List U → Mu → Prop) → Prop
structure WalkX (K : PySem.W.Frag) (J : It) (items : List U) (F : Hp) (τ : List Addr) (H : Hp) : Prop where
  go : ∀ F2 τ2 μ2 H2, Ext F τ H F2 τ2 H2 → RepH K F2 τ2 μ2 H2 → ∀ (i : Nat) (u : U), items[i]? = some u → J.go i H2
  yld : ∀ F2 τ2 μ2 H2, Ext F τ H F2 τ2 H2 → RepH K F2 τ2 μ2 H2 → ∀ (i : Nat) (u : U), items[i]? = some u → ∀ x H3, J.yld i H2 x H3 → ∃ F3, Ext F2 τ2 H2 F3 τ2 H3 ∧ RepH K F3 τ2 μ2 H3 ∧ RepU K F3 τ2 x u
  stop : ∀ F2 τ2 μ2 H2, Ext F τ H F2 τ2 H2 → RepH K F2 τ2 μ2 H2 → ∀ i : Nat, items.length ≤ i → J.stop i H2
def liftI (K : PySem.W.Frag) (t : XI) : TI := fun σ H R => ∃ ρ μ F τ Q, Rep K F τ ρ μ σ H ∧ t ρ μ Q ∧ ∀ items μ' F' τ' H' J, Ext F τ H F' τ' H' → RepH K F' τ' μ' H' → WalkX K J items F' τ' H' → Q items μ' → R J H'
theorem PI.mono {tg iter : Expr} {t t' : TI} (h : PI X tg iter t) (m : ∀ σ H Q, t' σ H Q → t σ H Q) : PI X tg iter t' := ⟨fun pins s σ H R I q => h.run pins s σ H R I (m _ _ _ q)⟩
abbrev QI (X : Cx) (tg iter : Expr) (t : XI) : Prop := PI X tg iter (liftI X.K t)
/-- the loop over known items; W by what is left -/
def wLoop (k : Nat) (g : XG) (tb : XS) (items : List U) : XS := fun E ρ μ => ∃ W : List U → Rho → Mu → Prop, W items ρ μ ∧ (∀ ρ1 μ1, W [] ρ1 μ1 → E.nx ρ1 μ1) ∧
  ∀ x r ρ1 μ1, W (x :: r) ρ1 μ1 → g x ρ1 μ1 fun ρ2 μ2 => tb { E with nx := tidy k (W r), ct := tidy k (W r), bk := E.nx } ρ2 μ2
def wFor (ti : XI) (g : XG) (tb : XS) : XS := fun E ρ μ => ti ρ μ fun items μ1 => wLoop μ1.length g tb items E ρ μ1
theorem qs_for {tg iter : Expr} {body : List Stmt} {ti : XI} {g : XG} {tb : XS} (hp : PassesOwn (model X.prog X.w) X.A X.env X.xe) (hc : X.calm = true) (hi : QI X tg iter ti) (hg : QG X tg g) (hb : QSs X body tb)
    (hs : ∀ x, foldedSetIterable iter X.env x = pure x := by intro _; rfl) : QS X (.For tg iter body [] pos) (wFor ti g tb) := PS.mono (ps_for hp hc hi hg hb hs) fun D σ H ⟨ρ, μ, F, τ, E, r, q, k⟩ => by
  refine ⟨ρ, μ, F, τ, _, r, q, fun items μ0 F0 τ0 H0 J x0 rh0 wk q0 => ?_⟩
  obtain ⟨W, w0, wend, turn⟩ := q0
  have hτ : τ0.length ≤ μ0.length := Nat.le_of_eq rh0.len
  have k0 := k.at x0
  refine ⟨fun i m σ1 H1 => m + i = items.length ∧ ∃ ρ1 μ1 F1 τ1, Ext F0 τ0 H0 F1 τ1 H1 ∧ Rep X.K F1 τ1 ρ1 μ1 σ1 H1 ∧ W (items.drop i) ρ1 μ1, ⟨items.length, rfl, ρ, μ0, F0, τ0, .refl _ _ _, r.at x0 rh0, w0⟩, ?_⟩
  rintro i m σ1 H1 ⟨hm, ρ1, μ1, F1, τ1, x1, r1, w1⟩
  cases hx : items[i]? with
  | none =>
    have hl : items.length ≤ i := List.getElem?_eq_none_iff.mp hx
    rw [List.drop_eq_nil_of_le hl] at w1
    exact .inl ⟨wk.stop F1 τ1 μ1 H1 x1 r1.h i hl, r1.nx (k0.at x1) (wend _ _ w1)⟩
  | some u =>
    have hl : i < items.length := (List.getElem?_eq_some_iff.mp hx).1
    have hd : items.drop i = u :: items.drop (i + 1) := by
      rw [List.drop_eq_getElem_cons hl]
      have : items[i] = u := (List.getElem?_eq_some_iff.mp hx).2
      rw [this]
    rw [hd] at w1
    refine .inr ⟨wk.go F1 τ1 μ1 H1 x1 r1.h i u hx, fun σ3 H3 => ∃ ρ3 μ3 F3 τ3, Ext F0 τ0 H0 F3 τ3 H3 ∧ Rep X.K F3 τ3 ρ3 μ3 σ3 H3 ∧ W (items.drop (i + 1)) ρ3 μ3, fun σ3 H3 h3 => ⟨m - 1, by omega, by omega, h3⟩, fun v H2 y2 => ?_⟩
    obtain ⟨F2, x2, rh2, ru⟩ := wk.yld F1 τ1 μ1 H1 x1 r1.h i u hx v H2 y2
    have x12 := x1.trans x2
    refine ⟨u, ρ1, μ1, F2, τ1, _, r1.at x2 rh2, ru, turn u _ ρ1 μ1 w1, fun ρ2 σ2 μ2 F3 τ3 H3 x3 rh3 rs3 l3 q3 => ?_⟩
    have fin : CtS X.K F3 τ3 H3 (tidy μ0.length (W (items.drop (i + 1)))) (fun σ3 H3 => ∃ ρ3 μ3 F3 τ3, Ext F0 τ0 H0 F3 τ3 H3 ∧ Rep X.K F3 τ3 ρ3 μ3 σ3 H3 ∧ W (items.drop (i + 1)) ρ3 μ3) := fun ρ4 σ4 μ4 F4 τ4 H4 x4 rh4 rs4 l4 t4 => by
      obtain ⟨τ5, ρ5, μ5, x5, r5, w5⟩ := tidy_rep (x12.trans (x3.trans x4)) hτ ⟨rh4, rs4, l4⟩ t4
      exact ⟨ρ5, μ5, F4, τ5, x5, r5, w5⟩
    have k3 := k0.at (x12.trans x3)
    exact ⟨ρ2, μ2, F3, τ3, _, ⟨rh3, rs3, l3⟩, q3, ⟨fin, k3.rt, k3.nx, fin⟩⟩
end
end W3
namespace W3
open PySem PySem.Spec PyProof.Rows L2
/-! ### what a value gives to be read -/
theorem RepDs.get {K : PySem.W.Frag} {F : Hp} : ∀ {vs : List V} {ds : List D} {i : Nat} {d : D}, RepDs K F vs ds → ds[i]? = some d → ∃ v, vs[i]? = some v ∧ RepD K F v d
  | _, _, _, _, .nil, e => by simp at e
  | _, _, 0, _, .cons h _, e => by
    have e' := Option.some.inj e
    subst e'
    exact ⟨_, rfl, h⟩
  | _, _, i + 1, _, .cons _ r, e => RepDs.get (i := i) r e
theorem RepUs.get {K : PySem.W.Frag} {F : Hp} {τ : List Addr} : ∀ {vs : List V} {ds : List U} {i : Nat} {d : U}, RepUs K F τ vs ds → ds[i]? = some d → ∃ v, vs[i]? = some v ∧ RepU K F τ v d
  | _, _, _, _, .nil, e => by simp at e
  | _, _, 0, _, .cons h _, e => by
    have e' := Option.some.inj e
    subst e'
    exact ⟨_, rfl, h⟩
  | _, _, i + 1, _, .cons _ r, e => RepUs.get (i := i) r e
theorem atI_rep {K : PySem.W.Frag} {F : Hp} {vs : List V} {ds : List D} {i : Int} {d : D} (r : RepDs K F vs ds) (h : atI ds i = some d) : ∃ v, atI vs i = some v ∧ RepD K F v d := by
  unfold atI at h ⊢
  rw [r.length]
  cases q : ixN ds.length i with
  | none => rw [q] at h; cases h
  | some j =>
    rw [q] at h
    exact r.get h
theorem RepUs.length {K : PySem.W.Frag} {F : Hp} {τ : List Addr} {vs : List V} {us : List U} (r : RepUs K F τ vs us) : vs.length = us.length := Paired.length r
theorem atU_rep {K : PySem.W.Frag} {F : Hp} {τ : List Addr} {vs : List V} {ds : List U} {i : Int} {d : U} (r : RepUs K F τ vs ds) (h : atI ds i = some d) : ∃ v, atI vs i = some v ∧ RepU K F τ v d := by
  unfold atI at h ⊢
  rw [r.length]
  cases q : ixN ds.length i with
  | none => rw [q] at h; cases h
  | some j =>
    rw [q] at h
    exact RepUs.get r h
/-- an own object, found -/
theorem ptr_of {K : PySem.W.Frag} {F H : Hp} {τ : List Addr} {μ : Mu} {v : V} {n : Nat} {m : MO} (rh : RepH K F τ μ H) (r : RepU K F τ v (.ptr n)) (e : μ[n]? = some m) (hm : m ≠ .gone) : ∃ a o, τ[n]? = some a ∧ v = .ref a ∧ H a = some o ∧ RepO K F τ o m := by
  obtain ⟨a, ea, rfl⟩ := r
  obtain ⟨o, eo, ro⟩ := rh.obj n a m ea e hm
  exact ⟨a, o, ea, rfl, eo, ro⟩
theorem ptrL_of {K : PySem.W.Frag} {F H : Hp} {τ : List Addr} {μ : Mu} {v : V} {n : Nat} {us : List U} (rh : RepH K F τ μ H) (r : RepU K F τ v (.ptr n)) (e : μ[n]? = some (.lst us)) : ∃ a vs, τ[n]? = some a ∧ v = .ref a ∧ H a = some (.lst vs) ∧ RepUs K F τ vs us := by
  obtain ⟨a, o, ea, ev, eo, ro⟩ := ptr_of rh r e (by intro z; cases z)
  cases o with
  | lst vs => exact ⟨a, vs, ea, ev, eo, ro⟩
  | _ => exact ro.elim
theorem ptrK_of {K : PySem.W.Frag} {F H : Hp} {τ : List Addr} {μ : Mu} {v : V} {n : Nat} {us : List (Key × U)} (rh : RepH K F τ μ H) (r : RepU K F τ v (.ptr n)) (e : μ[n]? = some (.dK us)) : ∃ a vs, τ[n]? = some a ∧ v = .ref a ∧ H a = some (.dK vs) ∧ RepKU K F τ vs us := by
  obtain ⟨a, o, ea, ev, eo, ro⟩ := ptr_of rh r e (by intro z; cases z)
  cases o with
  | dK vs => exact ⟨a, vs, ea, ev, eo, ro⟩
  | _ => exact ro.elim
theorem ptrT_of {K : PySem.W.Frag} {F H : Hp} {τ : List Addr} {μ : Mu} {v : V} {n : Nat} {us : List (List Key × U)} (rh : RepH K F τ μ H) (r : RepU K F τ v (.ptr n)) (e : μ[n]? = some (.dT us)) : ∃ a vs, τ[n]? = some a ∧ v = .ref a ∧ H a = some (.dT vs) ∧ RepKU K F τ vs us := by
  obtain ⟨a, o, ea, ev, eo, ro⟩ := ptr_of rh r e (by intro z; cases z)
  cases o with
  | dT vs => exact ⟨a, vs, ea, ev, eo, ro⟩
  | _ => exact ro.elim
/-- what is handed back as it stands -/
theorem Ct.ret {K : PySem.W.Frag} {F H : Hp} {τ : List Addr} {μ : Mu} {Q : UK} {R : VK} (k : Ct K F τ H Q R) (rh : RepH K F τ μ H) {v : V} {u : U} (r : RepU K F τ v u) (q : Q u μ) : R v H := k u v μ F τ H (.refl _ _ _) rh r q
def unU : List U → Option (List D)
  | [] => some []
  | .fz d :: r => (unU r).map (d :: ·)
  | .ptr _ :: _ => none
theorem unU_rep {K : PySem.W.Frag} {F : Hp} {τ : List Addr} : ∀ {vs : List V} {us : List U} {ds : List D}, RepUs K F τ vs us → unU us = some ds → RepDs K F vs ds
  | _, _, _, .nil, e => by cases e; exact .nil
  | _, .fz d :: r, ds, .cons h t, e => by
    unfold unU at e
    cases q : unU r with
    | none => rw [q] at e; cases e
    | some ds' => rw [q] at e; cases e; exact .cons h (unU_rep t q)
  | _, .ptr _ :: _, _, .cons _ _, e => by cases e
section
variable {X : Cx}
/-! ### arithmetic -/
theorem intint {K : PySem.W.Frag} {F H : Hp} {τ : List Addr} {μ : Mu} {x y : V} {i j : Int} (ru : RepU K F τ x (.fz (.int i))) (rw : RepU K F τ y (.fz (.int j))) : x = .int i ∧ y = .int j := ⟨int_of ru, int_of rw⟩
def oAdd (own : Bool) : X2 := fun u w μ Q => match u, w with
  | .fz (.int i), .fz (.int j) => Q (.fz (.int (i + j))) μ
  | .fz (.lst xs), .fz (.lst ys) => xs.length + ys.length ≤ sizeLine ∧ mkD own (xs ++ ys) μ Q
  | .fz (.tup xs), .fz (.tup ys) => xs.length + ys.length ≤ sizeLine ∧ Q (.fz (.tup (xs ++ ys))) μ
  | .ptr n, .fz (.lst ys) => match μ[n]? with
    | some (.lst us) => ∃ xs, unU us = some xs ∧ xs.length + ys.length ≤ sizeLine ∧ mkD own (xs ++ ys) μ Q
    | _ => False
  | .fz (.lst xs), .ptr n => match μ[n]? with
    | some (.lst us) => ∃ ys, unU us = some ys ∧ xs.length + ys.length ≤ sizeLine ∧ mkD own (xs ++ ys) μ Q
    | _ => False
  | .ptr n, .ptr m => match μ[n]?, μ[m]? with
    | some (.lst us), some (.lst ws) => ∃ xs ys, unU us = some xs ∧ unU ws = some ys ∧ xs.length + ys.length ≤ sizeLine ∧ mkD own (xs ++ ys) μ Q
    | _, _ => False
  | .fz (.str x), .fz (.str y) => x.length + y.length ≤ sizeLine ∧ Q (.fz (.str (x ++ y))) μ
  | _, _ => False
theorem RepDs.append {K : PySem.W.Frag} {F : Hp} : ∀ {vs ws : List V} {ds es : List D}, RepDs K F vs ds → RepDs K F ws es → RepDs K F (vs ++ ws) (ds ++ es)
  | _, _, _, _, .nil, s => s
  | _, _, _, _, .cons h r, s => .cons h (RepDs.append r s)
theorem RepDs.nil_of {K : PySem.W.Frag} {F : Hp} {vs : List V} {ds : List D} (r : RepDs K F vs ds) (e : vs = []) : ds = [] := by
  subst e
  cases r
  rfl
theorem qo_add (own : Bool) : QO X (binaryOp .Add) (oAdd own) := OpR.mono (OpR.or (OpR.or op_add op_cat) (OpR.or op_catA op_add_str)) fun x y H R ⟨F, τ, μ, u, w, Q, rh, ru, rw, q, k⟩ => by
  unfold oAdd at q
  split at q
  · exact .inl (.inl ⟨_, _, int_of ru, int_of rw, k.ret rh (RepU.fz (.int _)) q⟩)
  · obtain ⟨a, vs, rfl, ha, da⟩ := lst_of ru
    obtain ⟨b, ws, rfl, hb, db⟩ := lst_of rw
    exact .inl (.inr ⟨a, b, vs, ws, rfl, rfl, rh.sub.lst _ _ ha, rh.sub.lst _ _ hb, by rw [da.length, db.length]; exact q.1, new_D rh k (da.append db) q.2⟩)
  · obtain ⟨a, vs, rfl, ha, da⟩ := tup_of ru
    obtain ⟨b, ws, rfl, hb, db⟩ := tup_of rw
    refine .inr (.inl ⟨a, b, vs, ws, rfl, rfl, sqT_of rh.sub ha, sqT_of rh.sub hb, by rw [da.length, db.length]; exact q.1, fun e => ?_, fun e => ?_, fun _ _ => new_tup rh k (da.append db) q.2⟩)
    · have e1 := da.nil_of e
      subst e1
      exact k.ret rh rw (by simpa using q.2)
    · intro e2
      have e1 := db.nil_of e2
      subst e1
      exact k.ret rh ru (by simpa using q.2)
  · split at q
    · rename_i us hn
      obtain ⟨xs, e1, hl, q⟩ := q
      obtain ⟨a, vs, _, rfl, ha, rus⟩ := ptrL_of rh ru hn
      obtain ⟨b, ws, rfl, hb, db⟩ := lst_of rw
      have da := unU_rep rus e1
      exact .inl (.inr ⟨a, b, vs, ws, rfl, rfl, ha, rh.sub.lst _ _ hb, by rw [da.length, db.length]; exact hl, new_D rh k (da.append db) q⟩)
    · exact q.elim
  · split at q
    · rename_i us hn
      obtain ⟨xs, e1, hl, q⟩ := q
      obtain ⟨b, ws, _, rfl, hb, rus⟩ := ptrL_of rh rw hn
      obtain ⟨a, vs, rfl, ha, da⟩ := lst_of ru
      have db := unU_rep rus e1
      exact .inl (.inr ⟨a, b, vs, ws, rfl, rfl, rh.sub.lst _ _ ha, hb, by rw [da.length, db.length]; exact hl, new_D rh k (da.append db) q⟩)
    · exact q.elim
  · split at q
    · rename_i us1 us2 hn hm
      obtain ⟨xs, ys, e1, e2, hl, q⟩ := q
      obtain ⟨a, vs, _, rfl, ha, rus⟩ := ptrL_of rh ru hn
      obtain ⟨b, ws, _, rfl, hb, rws⟩ := ptrL_of rh rw hm
      have da := unU_rep rus e1
      have db := unU_rep rws e2
      exact .inl (.inr ⟨a, b, vs, ws, rfl, rfl, ha, hb, by rw [da.length, db.length]; exact hl, new_D rh k (da.append db) q⟩)
    · exact q.elim
  · exact .inr (.inr ⟨_, _, str_of ru, str_of rw, q.1, k.ret rh (RepU.fz (.str _)) q.2⟩)
  · exact q.elim
def oSub : X2 := fun u w μ Q => match u, w with
  | .fz (.int i), .fz (.int j) => Q (.fz (.int (i - j))) μ
  | _, _ => False
theorem qo_sub : QO X (binaryOp .Sub) oSub := OpR.mono op_sub fun x y H R ⟨F, τ, μ, u, w, Q, rh, ru, rw, q, k⟩ => by
  unfold oSub at q
  split at q
  · exact ⟨_, _, int_of ru, int_of rw, k.ret rh (RepU.fz (.int _)) q⟩
  · exact q.elim
def oXor : X2 := fun u w μ Q => match u, w with
  | .fz (.int i), .fz (.int j) => Q (.fz (.int (Builtin.bitXor i j))) μ
  | _, _ => False
theorem qo_xor : QO X (binaryOp .BitXor) oXor := OpR.mono op_xor fun x y H R ⟨F, τ, μ, u, w, Q, rh, ru, rw, q, k⟩ => by
  unfold oXor at q
  split at q
  · exact ⟨_, _, int_of ru, int_of rw, k.ret rh (RepU.fz (.int _)) q⟩
  · exact q.elim
def oMod : X2 := fun u w μ Q => match u, w with
  | .fz (.int i), .fz (.int j) => 0 < j ∧ Q (.fz (.int (i % j))) μ
  | _, _ => False
theorem qo_mod : QO X (binaryOp .Mod) oMod := OpR.mono op_mod fun x y H R ⟨F, τ, μ, u, w, Q, rh, ru, rw, q, k⟩ => by
  unfold oMod at q
  split at q
  · exact ⟨_, _, int_of ru, int_of rw, q.1, k.ret rh (RepU.fz (.int _)) q.2⟩
  · exact q.elim
def oFdiv : X2 := fun u w μ Q => match u, w with
  | .fz (.int i), .fz (.int j) => CDivW i j ∧ Q (.fz (.int (i / j))) μ
  | _, _ => False
theorem qo_fdiv : QO X (binaryOp .FloorDiv) oFdiv := OpR.mono op_fdivW fun x y H R ⟨F, τ, μ, u, w, Q, rh, ru, rw, q, k⟩ => by
  unfold oFdiv at q
  split at q
  · exact ⟨_, _, int_of ru, int_of rw, q.1, k.ret rh (RepU.fz (.int _)) q.2⟩
  · exact q.elim
def oPow : X2 := fun u w μ Q => match u, w with
  | .fz (.int i), .fz (.int j) => CPow i j ∧ Q (.fz (.int (i ^ j.toNat))) μ
  | _, _ => False
theorem qo_pow : QO X (binaryOp .Pow) oPow := OpR.mono op_pow fun x y H R ⟨F, τ, μ, u, w, Q, rh, ru, rw, q, k⟩ => by
  unfold oPow at q
  split at q
  · exact ⟨_, _, int_of ru, int_of rw, q.1, k.ret rh (RepU.fz (.int _)) q.2⟩
  · exact q.elim
theorem RepDs.rep {K : PySem.W.Frag} {F : Hp} {vs : List V} {ds : List D} (r : RepDs K F vs ds) : ∀ n, RepDs K F (List.replicate n vs).flatten (List.replicate n ds).flatten
  | 0 => .nil
  | n + 1 => by
    rw [List.replicate_succ, List.replicate_succ, List.flatten_cons, List.flatten_cons]
    exact r.append (r.rep n)
def oMul (own : Bool) : X2 := fun u w μ Q => match u, w with
  | .fz (.int i), .fz (.int j) => (CMul i j ∨ CMulW i j) ∧ Q (.fz (.int (i * j))) μ
  | .fz (.lst xs), .fz (.int j) => (-(2 ^ 63) ≤ j ∧ j < 2 ^ 63 ∧ xs.length * j.toNat ≤ sizeLine) ∧ mkD own (List.replicate j.toNat xs).flatten μ Q
  | .fz (.tup xs), .fz (.int j) => (xs ≠ [] ∧ 2 ≤ j ∧ j ≤ 1000 ∧ xs.length ≤ 1000) ∧ Q (.fz (.tup (List.replicate j.toNat xs).flatten)) μ
  | _, _ => False
theorem qo_mul (own : Bool) : QO X (binaryOp .Mult) (oMul own) := OpR.mono (OpR.or (OpR.or op_mul op_mulW) (OpR.or op_rep op_repT)) fun x y H R ⟨F, τ, μ, u, w, Q, rh, ru, rw, q, k⟩ => by
  unfold oMul at q
  split at q
  · rcases q with ⟨c | c, q⟩
    · exact .inl (.inl ⟨_, _, int_of ru, int_of rw, c, k.ret rh (RepU.fz (.int _)) q⟩)
    · exact .inl (.inr ⟨_, _, int_of ru, int_of rw, c, k.ret rh (RepU.fz (.int _)) q⟩)
  · obtain ⟨a, vs, rfl, ha, da⟩ := lst_of ru
    exact .inr (.inl ⟨a, _, vs, rfl, int_of rw, rh.sub.lst _ _ ha, q.1.1, q.1.2.1, by rw [da.length]; exact q.1.2.2, new_D rh k (da.rep _) q.2⟩)
  · obtain ⟨a, vs, rfl, ha, da⟩ := tup_of ru
    refine .inr (.inr ⟨a, _, vs, rfl, int_of rw, sqT_of rh.sub ha, fun e => q.1.1 (da.nil_of e), q.1.2.1, q.1.2.2.1, by rw [da.length]; exact q.1.2.2.2, new_tup rh k (da.rep _) q.2⟩)
  · exact q.elim
/-! one expression -/
def w1 (o : U → Mu → UK → Prop) (ta : XE) : XE := fun ρ μ Q => ta ρ μ fun u μ1 => o u μ1 Q
def liftU (K : PySem.W.Frag) (o : U → Mu → UK → Prop) : V → Hp → VK → Prop := fun x H R => ∃ F τ μ u Q, RepH K F τ μ H ∧ RepU K F τ x u ∧ o u μ Q ∧ Ct K F τ H Q R
theorem one {K : PySem.W.Frag} {r : V → Hp → VK → Prop} {ta : XE} {o : U → Mu → UK → Prop} (m : ∀ x H R, liftU K o x H R → r x H R) {σ : Sl} {H : Hp} {R : VK} (h : liftE K (w1 o ta) σ H R) : tUn r (liftE K ta) σ H R := by
  obtain ⟨ρ, μ, F, τ, Q, r0, q, k⟩ := h
  refine ⟨ρ, μ, F, τ, _, r0, q, fun u v μ1 F1 τ1 H1 e1 r1 ru q1 => ?_⟩
  exact m _ _ _ ⟨F1, τ1, μ1, u, Q, r1, ru, q1, k.at e1⟩
def oNeg : U → Mu → UK → Prop := fun u μ Q => match u with
  | .fz (.int i) => Q (.fz (.int (-i))) μ
  | _ => False
theorem qe_neg {a : Expr} {ta : XE} {pos : Pos} (ha : QE X a ta) : QE X (.UnaryOp .USub a pos) (w1 oNeg ta) := PE.mono (pe_un un_neg ha) fun σ H R h => one (K := X.K) (o := oNeg) (fun x H R ⟨F, τ, μ, u, Q, rh, ru, q, k⟩ => by
  unfold oNeg at q
  split at q
  · exact ⟨_, int_of ru, k.ret rh (RepU.fz (.int _)) q⟩
  · exact q.elim) h
/-! ### comparisons of ints -/
theorem qo_icmp {f : Value → Value → Sem Value} {p : Int → Int → Bool} {o : X2} (h : OpR X f (rI0 fun i j => .bl (p i j))) (ho : ∀ u w μ Q, o u w μ Q → ∃ i j, u = .fz (.int i) ∧ w = .fz (.int j) ∧ Q (.fz (.bl (p i j))) μ) : QO X f o := OpR.mono h fun x y H R ⟨F, τ, μ, u, w, Q, rh, ru, rw, q, k⟩ => by
  obtain ⟨i, j, rfl, rfl, z⟩ := ho _ _ _ _ q
  exact ⟨_, _, int_of ru, int_of rw, k.ret rh (RepU.fz (.bl _)) z⟩
def oLt : X2 := fun u w μ Q => match u, w with
  | .fz (.int i), .fz (.int j) => Q (.fz (.bl (decide (i < j)))) μ
  | _, _ => False
def oLe : X2 := fun u w μ Q => match u, w with
  | .fz (.int i), .fz (.int j) => Q (.fz (.bl (decide (i ≤ j)))) μ
  | _, _ => False
def oGt : X2 := fun u w μ Q => match u, w with
  | .fz (.int i), .fz (.int j) => Q (.fz (.bl (decide (j < i)))) μ
  | _, _ => False
def oGe : X2 := fun u w μ Q => match u, w with
  | .fz (.int i), .fz (.int j) => Q (.fz (.bl (decide (j ≤ i)))) μ
  | _, _ => False
theorem qo_lt : QO X (compareOp .Lt) oLt := qo_icmp op_lt fun u w μ Q q => by
  unfold oLt at q
  split at q
  · exact ⟨_, _, rfl, rfl, q⟩
  · exact q.elim
theorem qo_le : QO X (compareOp .LtE) oLe := qo_icmp op_le fun u w μ Q q => by
  unfold oLe at q
  split at q
  · exact ⟨_, _, rfl, rfl, q⟩
  · exact q.elim
theorem qo_gt : QO X (compareOp .Gt) oGt := qo_icmp op_gt fun u w μ Q q => by
  unfold oGt at q
  split at q
  · exact ⟨_, _, rfl, rfl, q⟩
  · exact q.elim
theorem qo_ge : QO X (compareOp .GtE) oGe := qo_icmp op_ge fun u w μ Q q => by
  unfold oGe at q
  split at q
  · exact ⟨_, _, rfl, rfl, q⟩
  · exact q.elim
/-! ### equality -/
mutual
def toPy : D → Option PyData
  | .non => some .none
  | .bl b => some (.bool b)
  | .int i => some (.int i)
  | .str x => some (.str x)
  | .tup ds => (toPys ds).map .tuple
  | .ktup ds => (toPys ds).map .tuple
  | .ptup ds => (toPys ds).map .tuple
  | .lst ds => (toPys ds).map .list
  | .slst ds => (toPys ds).map .list
  | .obj _ => none
  | .ty _ => none
  | .dK _ => none
  | .dT _ => none
def toPys : List D → Option (List PyData)
  | [] => some []
  | d :: ds => match toPy d, toPys ds with
    | some p, some ps => some (p :: ps)
    | _, _ => none
end
def pyU (μ : Mu) : U → Option PyData
  | .fz d => toPy d
  | .ptr n => match μ[n]? with
    | some (.lst us) => (unU us).bind fun ds => (toPys ds).map .list
    | _ => none
theorem sqT_sub {K : PySem.W.Frag} {F H : Hp} {a : Addr} {vs : List V} (s : Sub F H) (h : SqT K F a vs) : SqT K H a vs := s.sqT h
mutual
theorem dp_of {K : PySem.W.Frag} {F H : Hp} (s : Sub F H) : ∀ {v : V} {d : D} {p : PyData}, RepD K F v d → toPy d = some p → Dp K H v p
  | _, _, _, .non, e => by cases e; exact .non
  | _, _, _, .bl b, e => by cases e; exact .bl b
  | _, _, _, .int b, e => by cases e; exact .int b
  | _, _, _, .str b, e => by cases e; exact .str b
  | _, .tup ds, _, .tup h r, e => by
    unfold toPy at e
    cases q : toPys ds with
    | none => rw [q] at e; cases e
    | some ps => rw [q] at e; cases e; exact .tup (sqT_of s h) (dps_of s r q)
  | _, .ktup ds, _, .ktup h r, e => by
    unfold toPy at e
    cases q : toPys ds with
    | none => rw [q] at e; cases e
    | some ps => rw [q] at e; cases e; exact .tup (s.sqT h) (dps_of s r q)
  | _, .lst ds, _, .lst h r, e => by
    unfold toPy at e
    cases q : toPys ds with
    | none => rw [q] at e; cases e
    | some ps => rw [q] at e; cases e; exact .lst (sqL_of s h) (dps_of s r q)
  | _, .slst ds, _, .slst h r, e => by
    unfold toPy at e
    cases q : toPys ds with
    | none => rw [q] at e; cases e
    | some ps => rw [q] at e; cases e; exact .lst (s.sqL h) (dps_of s r q)
  | _, .ptup ds, _, .ptup (vs := vs) h r, e => by
    unfold toPy at e
    obtain ⟨o, _, ho⟩ := h
    cases q : toPys ds with
    | none => rw [q] at e; cases e
    | some ps => rw [q] at e; cases e; exact .tup (s.sqT (.inl (.inr ⟨o, ho⟩))) (dps_of s r q)
  | _, .ty _, _, .ty _, e => by cases e
  | _, .obj _, _, .obj _, e => by cases e
  | _, .dK _, _, .dK _ _, e => by cases e
  | _, .dT _, _, .dT _ _, e => by cases e
theorem dps_of {K : PySem.W.Frag} {F H : Hp} (s : Sub F H) : ∀ {vs : List V} {ds : List D} {ps : List PyData}, RepDs K F vs ds → toPys ds = some ps → DpAll K H vs ps
  | _, _, _, .nil, e => by cases e; exact .nil
  | _, d :: ds, _, .cons h r, e => by
    unfold toPys at e
    cases q1 : toPy d with
    | none => rw [q1] at e; cases e
    | some p =>
      cases q2 : toPys ds with
      | none => rw [q1, q2] at e; cases e
      | some ps => rw [q1, q2] at e; cases e; exact .cons (dp_of s h q1) (dps_of s r q2)
end
theorem dpU_of {K : PySem.W.Frag} {F H : Hp} {τ : List Addr} {μ : Mu} {v : V} {u : U} {p : PyData} (rh : RepH K F τ μ H) (r : RepU K F τ v u) (e : pyU μ u = some p) : Dp K H v p := by
  cases u with
  | fz d => exact dp_of rh.sub r e
  | ptr n =>
    cases q0 : μ[n]? with
    | none => simp only [pyU, q0] at e; cases e
    | some m =>
      cases m with
      | lst us =>
        simp only [pyU, q0] at e
        obtain ⟨a, vs, _, rfl, ha, ru⟩ := ptrL_of rh r q0
        cases q : unU us with
        | none => rw [q] at e; cases e
        | some ds =>
          rw [q] at e
          have e' : (toPys ds).map PyData.list = some p := e
          cases q2 : toPys ds with
          | none => rw [q2] at e'; cases e'
          | some ps => rw [q2] at e'; cases e'; exact .lst (.inl (.inl ha)) (dps_of rh.sub (unU_rep ru q) q2)
      | _ => simp only [pyU, q0] at e; cases e
def oEq (neg : Bool) : X2 := fun u w μ Q => match u, w with
  | .fz (.int i), .fz (.int j) => Q (.fz (.bl (if neg then !decide (i = j) else decide (i = j)))) μ
  | .fz (.str i), .fz (.str j) => Q (.fz (.bl (if neg then !decide (i = j) else decide (i = j)))) μ
  | .fz (.bl i), .fz (.bl j) => Q (.fz (.bl (if neg then !decide (i = j) else decide (i = j)))) μ
  | u, w => ∃ p q, pyU μ u = some p ∧ pyU μ w = some q ∧ SeqAt.shaped p = true ∧ SeqAt.shaped q = true ∧ Q (.fz (.bl (if neg then !PyData.eqv p q else PyData.eqv p q))) μ
theorem dec_congr {p q : Prop} [Decidable p] [Decidable q] (h : p ↔ q) : decide p = decide q := by
  by_cases c : p
  · rw [decide_eq_true c, decide_eq_true (h.mp c)]
  · rw [decide_eq_false c, decide_eq_false fun z => c (h.mpr z)]
theorem qo_eq (hu : X.A.units + 64 < cLine) : QO X (compareOp .Eq) (oEq false) := OpR.mono (OpR.or op_eq (op_eqD hu)) fun x y H R ⟨F, τ, μ, u, w, Q, rh, ru, rw, q, k⟩ => by
  unfold oEq at q
  split at q
  · rename_i i j
    have e1 := int_of ru
    have e2 := int_of rw
    subst e1 e2
    refine .inl ⟨rfl, k.ret rh (RepU.fz (.bl _)) ?_⟩
    rw [dec_congr (show V.int i = V.int j ↔ i = j from ⟨fun e => V.int.inj e, fun e => congrArg V.int e⟩)]
    exact q
  · rename_i i j
    have e1 := str_of ru
    have e2 := str_of rw
    subst e1 e2
    refine .inl ⟨rfl, k.ret rh (RepU.fz (.bl _)) ?_⟩
    rw [dec_congr (show V.str i = V.str j ↔ i = j from ⟨fun e => V.str.inj e, fun e => congrArg V.str e⟩)]
    exact q
  · rename_i i j
    have e1 := bl_of ru
    have e2 := bl_of rw
    subst e1 e2
    refine .inl ⟨rfl, k.ret rh (RepU.fz (.bl _)) ?_⟩
    rw [dec_congr (show V.bl i = V.bl j ↔ i = j from ⟨fun e => V.bl.inj e, fun e => congrArg V.bl e⟩)]
    exact q
  · obtain ⟨p, p', h1, h2, h3, h4, q⟩ := q
    exact .inr ⟨p, p', dpU_of rh ru h1, dpU_of rh rw h2, h3, h4, k.ret rh (RepU.fz (.bl _)) q⟩
theorem qo_ne (hu : X.A.units + 64 < cLine) : QO X (compareOp .NotEq) (oEq true) := OpR.mono (OpR.or op_ne (op_neD hu)) fun x y H R ⟨F, τ, μ, u, w, Q, rh, ru, rw, q, k⟩ => by
  unfold oEq at q
  split at q
  · rename_i i j
    have e1 := int_of ru
    have e2 := int_of rw
    subst e1 e2
    refine .inl ⟨rfl, k.ret rh (RepU.fz (.bl _)) ?_⟩
    rw [dec_congr (show V.int i = V.int j ↔ i = j from ⟨fun e => V.int.inj e, fun e => congrArg V.int e⟩)]
    exact q
  · rename_i i j
    have e1 := str_of ru
    have e2 := str_of rw
    subst e1 e2
    refine .inl ⟨rfl, k.ret rh (RepU.fz (.bl _)) ?_⟩
    rw [dec_congr (show V.str i = V.str j ↔ i = j from ⟨fun e => V.str.inj e, fun e => congrArg V.str e⟩)]
    exact q
  · rename_i i j
    have e1 := bl_of ru
    have e2 := bl_of rw
    subst e1 e2
    refine .inl ⟨rfl, k.ret rh (RepU.fz (.bl _)) ?_⟩
    rw [dec_congr (show V.bl i = V.bl j ↔ i = j from ⟨fun e => V.bl.inj e, fun e => congrArg V.bl e⟩)]
    exact q
  · obtain ⟨p, p', h1, h2, h3, h4, q⟩ := q
    exact .inr ⟨p, p', dpU_of rh ru h1, dpU_of rh rw h2, h3, h4, k.ret rh (RepU.fz (.bl _)) q⟩
end
end W3
namespace W3
open PySem PySem.Spec PyProof.Rows L2
/-! ### association lists -/
section
variable {κ α : Type} [DecidableEq κ]
def look (kvs : List (κ × α)) (k : κ) : Option α := (kvs.find? fun kv => decide (kv.1 = k)).map (·.2)
def putA (kvs : List (κ × α)) (k : κ) (v : α) : List (κ × α) :=
  if (kvs.any fun kv => decide (kv.1 = k)) = true then kvs.map (fun kv => if kv.1 = k then (kv.1, v) else kv) else kvs ++ [(k, v)]
def dropA (kvs : List (κ × α)) (k : κ) : List (κ × α) := kvs.filter fun kv => decide (kv.1 ≠ k)
theorem look_nil {k : κ} : look ([] : List (κ × α)) k = none := rfl
theorem look_cons {k j : κ} {v : α} {r : List (κ × α)} : look ((j, v) :: r) k = if j = k then some v else look r k := by
  unfold look
  rw [List.find?_cons]
  by_cases e : j = k
  · simp [e]
  · simp [e]
end
def RelOD (K : PySem.W.Frag) (F : Hp) : Option V → Option D → Prop
  | some v, some d => RepD K F v d
  | none, none => True
  | _, _ => False
def RelOU (K : PySem.W.Frag) (F : Hp) (τ : List Addr) : Option V → Option U → Prop
  | some v, some d => RepU K F τ v d
  | none, none => True
  | _, _ => False
theorem valV_cons {κ : Type} [DecidableEq κ] {k j : κ} {v : V} {r : List (κ × V)} : valV ((j, v) :: r) k = if j = k then some v else valV r k := by
  by_cases e : j = k
  · rw [valV_pos (p := (j, v)) e, if_pos e]
  · rw [valV_neg (p := (j, v)) e, if_neg e]
theorem RepK1.look {K : PySem.W.Frag} {F : Hp} (k : Key) : ∀ {vs : List (Key × V)} {ds : List (Key × D)}, RepK1 K F vs ds → RelOD K F (valV vs k) (W3.look ds k)
  | _, _, .nil => True.intro
  | _, _, .cons (k := j) h r => by
    rw [valV_cons, look_cons]
    by_cases e : j = k
    · rw [if_pos e, if_pos e]; exact h
    · rw [if_neg e, if_neg e]; exact RepK1.look k r
theorem RepK2.look {K : PySem.W.Frag} {F : Hp} (k : List Key) : ∀ {vs : List (List Key × V)} {ds : List (List Key × D)}, RepK2 K F vs ds → RelOD K F (valV vs k) (W3.look ds k)
  | _, _, .nil => True.intro
  | _, _, .cons (k := j) h r => by
    rw [valV_cons, look_cons]
    by_cases e : j = k
    · rw [if_pos e, if_pos e]; exact h
    · rw [if_neg e, if_neg e]; exact RepK2.look k r
theorem RepKU.look {κ : Type} [DecidableEq κ] {K : PySem.W.Frag} {F : Hp} {τ : List Addr} (k : κ) : ∀ {vs : List (κ × V)} {ds : List (κ × U)}, RepKU K F τ vs ds → RelOU K F τ (valV vs k) (W3.look ds k)
  | _, _, .nil => True.intro
  | (j, v) :: vs, (j', d) :: ds, .cons h r => by
    obtain ⟨e0, hd⟩ := h
    have e0 : j = j' := e0
    subst e0
    rw [valV_cons, look_cons]
    by_cases e : j = k
    · rw [if_pos e, if_pos e]; exact hd
    · rw [if_neg e, if_neg e]; exact RepKU.look k r
theorem RelOD.some_of {K : PySem.W.Frag} {F : Hp} {o : Option V} {d : D} (h : RelOD K F o (some d)) : ∃ v, o = some v ∧ RepD K F v d := by
  cases o with
  | none => exact h.elim
  | some v => exact ⟨v, rfl, h⟩
theorem RelOU.some_of {K : PySem.W.Frag} {F : Hp} {τ : List Addr} {o : Option V} {d : U} (h : RelOU K F τ o (some d)) : ∃ v, o = some v ∧ RepU K F τ v d := by
  cases o with
  | none => exact h.elim
  | some v => exact ⟨v, rfl, h⟩
theorem RelOD.isSome {K : PySem.W.Frag} {F : Hp} {o : Option V} {d : Option D} (h : RelOD K F o d) : o.isSome = d.isSome := by
  cases o <;> cases d <;> first | rfl | exact h.elim
theorem RelOU.isSome {K : PySem.W.Frag} {F : Hp} {τ : List Addr} {o : Option V} {d : Option U} (h : RelOU K F τ o d) : o.isSome = d.isSome := by
  cases o <;> cases d <;> first | rfl | exact h.elim
/-- keys -/
def keyD : D → Option Key
  | .int i => some (.inl i)
  | .str x => some (.inr x)
  | _ => none
def keysD : List D → Option (List Key)
  | [] => some []
  | d :: ds => match keyD d, keysD ds with
    | some k, some ks => some (k :: ks)
    | _, _ => none
theorem keyD_rep {K : PySem.W.Frag} {F : Hp} {v : V} {d : D} {k : Key} (r : RepD K F v d) (e : keyD d = some k) : v = kV k := by
  cases r <;> cases e <;> rfl
theorem keysD_rep {K : PySem.W.Frag} {F : Hp} : ∀ {vs : List V} {ds : List D} {ks : List Key}, RepDs K F vs ds → keysD ds = some ks → vs = ks.map kV
  | _, _, _, .nil, e => by cases e; rfl
  | _, d :: ds, _, .cons h r, e => by
    unfold keysD at e
    cases q1 : keyD d with
    | none => rw [q1] at e; cases e
    | some k =>
      cases q2 : keysD ds with
      | none => rw [q1, q2] at e; cases e
      | some ks => rw [q1, q2] at e; cases e; rw [keyD_rep h q1, keysD_rep r q2]; rfl
/-- what a dict has for a value as a key: the key is one, and what is found -/
def dlook (μ : Mu) (u w : U) : Option (Option U) := match u, w with
  | .fz (.dK kvs), .fz d => (keyD d).map fun k => (look kvs k).map .fz
  | .fz (.dT kvs), .fz (.tup ds) => (keysD ds).map fun k => (look kvs k).map .fz
  | .ptr n, .fz d => match μ[n]? with
    | some (.dK kvs) => (keyD d).map fun k => look kvs k
    | some (.dT kvs) => match d with
      | .tup ds => (keysD ds).map fun k => look kvs k
      | _ => none
    | _ => none
  | _, _ => none
theorem relOU_of {K : PySem.W.Frag} {F : Hp} {τ : List Addr} {o : Option V} {d : Option D} (h : RelOD K F o d) : RelOU K F τ o (d.map .fz) := by
  cases o <;> cases d <;> first | exact h.elim | exact True.intro | exact h
theorem dlook_rep {K : PySem.W.Frag} {F H : Hp} {τ : List Addr} {μ : Mu} {x y : V} {u w : U} {o : Option U} (rh : RepH K F τ μ H) (ru : RepU K F τ x u) (rw' : RepU K F τ y w) (e : dlook μ u w = some o) :
    ∃ a r, x = .ref a ∧ DGet H a y r ∧ RelOU K F τ r o := by
  unfold dlook at e
  split at e
  · rename_i kvs d
    cases q : keyD d with
    | none => rw [q] at e; cases e
    | some k =>
      rw [q] at e
      cases e
      cases ru with
      | dK h r =>
        exact ⟨_, _, rfl, .inl ⟨_, k, rh.sub.dK _ _ h, keyD_rep rw' q, rfl⟩, relOU_of (r.look k)⟩
  · rename_i kvs ds
    cases q : keysD ds with
    | none => rw [q] at e; cases e
    | some k =>
      rw [q] at e
      cases e
      obtain ⟨b, vs, rfl, hb, db⟩ := tup_of rw'
      cases ru with
      | dT h r =>
        have ek := keysD_rep db q
        subst ek
        exact ⟨_, _, rfl, .inr ⟨_, k, b, rh.sub.dT _ _ h, rfl, rh.sub.tup _ _ hb, rfl⟩, relOU_of (r.look k)⟩
  · rename_i n d
    split at e
    · rename_i kvs hn
      obtain ⟨a, vs, _, rfl, ha, rk⟩ := ptrK_of rh ru hn
      cases q : keyD d with
      | none => rw [q] at e; cases e
      | some k =>
        rw [q] at e
        cases e
        exact ⟨a, _, rfl, .inl ⟨_, k, .inl ha, keyD_rep rw' q, rfl⟩, rk.look k⟩
    · rename_i kvs hn
      obtain ⟨a, vs, _, rfl, ha, rk⟩ := ptrT_of rh ru hn
      split at e
      · rename_i ds
        cases q : keysD ds with
        | none => rw [q] at e; cases e
        | some k =>
          rw [q] at e
          cases e
          obtain ⟨b, ws, rfl, hb, db⟩ := tup_of rw'
          have ek := keysD_rep db q
          subst ek
          exact ⟨a, _, rfl, .inr ⟨_, k, b, .inl ha, rfl, rh.sub.tup _ _ hb, rfl⟩, rk.look k⟩
      · cases e
    · cases e
  · cases e
section
variable {X : Cx}
/-! ### in -/
def isDict (μ : Mu) : U → Bool
  | .fz (.dK _) => true
  | .fz (.dT _) => true
  | .ptr n => match μ[n]? with
    | some (.dK _) => true
    | some (.dT _) => true
    | _ => false
  | _ => false
def unList : PyData → Option (List PyData)
  | .list ps => some ps
  | .tuple ps => some ps
  | _ => none
def oIn (neg : Bool) : X2 := fun w u μ Q => match isDict μ u with
  | true => ∃ o, dlook μ u w = some o ∧ Q (.fz (.bl (if neg then !o.isSome else o.isSome))) μ
  | false => ∃ p s ps, pyU μ w = some p ∧ pyU μ u = some s ∧ unList s = some ps ∧ SeqAt.shaped p = true ∧ SeqAt.shaped s = true ∧ Q (.fz (.bl (if neg then !ps.any fun z => PyData.eqv z p else ps.any fun z => PyData.eqv z p))) μ
theorem room65 {A : Around} {p s : PyData} (hp : SeqAt.shaped p = true) (hu : A.units + 66 < cLine) (ps : List PyData) : A.units + 1 + min (PyData.depthAll ps) p.depth < cLine := by
  have h1 := SeqAt.depth_of_shaped hp
  have h2 : min (PyData.depthAll ps) p.depth ≤ p.depth := Nat.min_le_right _ _
  omega
def rInX (K : PySem.W.Frag) (neg : Bool) : R2 := fun y x H Q => (∃ a r, x = .ref a ∧ DGet H a y r ∧ Q (.bl (if neg then !r.isSome else r.isSome)) H) ∨
  ∃ p s ps, Dp K H y p ∧ Dp K H x s ∧ unList s = some ps ∧ SeqAt.shaped p = true ∧ SeqAt.shaped s = true ∧ Q (.bl (if neg then !ps.any fun z => PyData.eqv z p else ps.any fun z => PyData.eqv z p)) H
theorem op_inX (hu : X.A.units + 66 < cLine) : OpR X (compareOp .In) (rInX X.K false) := by
  intro pins s σ H y x u v Q I ry rx h
  rcases h with ⟨a, r, rfl, g, q⟩ | ⟨p, t, ps, h1, h2, h3, h4, h5, q⟩
  · cases rx
    exact d_in (by omega) I g ry fun s3 I3 => ⟨.bl r.isSome, H, I3, rfl, q⟩
  · obtain ⟨as, r1⟩ := Dp.reads I p y u h1 ry
    obtain ⟨bs, r2⟩ := Dp.reads I t x v h2 rx
    cases t <;> cases h3
    · exact SeqAt.in_list_reads r2 r1 (SeqAt.canLay_of_shaped h5) (SeqAt.canLay_of_shaped h4) (room65 (s := p) h4 hu _) ⟨.bl _, H, I, rfl, q⟩
    · exact SeqAt.in_tuple_reads r2 r1 (SeqAt.canLay_of_shaped h5) (SeqAt.canLay_of_shaped h4) (room65 (s := p) h4 hu _) ⟨.bl _, H, I, rfl, q⟩
theorem op_notInX (hu : X.A.units + 66 < cLine) : OpR X (compareOp .NotIn) (rInX X.K true) := by
  intro pins s σ H y x u v Q I ry rx h
  rcases h with ⟨a, r, rfl, g, q⟩ | ⟨p, t, ps, h1, h2, h3, h4, h5, q⟩
  · cases rx
    exact d_notIn (by omega) I g ry fun s3 I3 => ⟨.bl (!r.isSome), H, I3, rfl, q⟩
  · obtain ⟨as, r1⟩ := Dp.reads I p y u h1 ry
    obtain ⟨bs, r2⟩ := Dp.reads I t x v h2 rx
    cases t <;> cases h3
    · exact SeqAt.notIn_list_reads r2 r1 (SeqAt.canLay_of_shaped h5) (SeqAt.canLay_of_shaped h4) (room65 (s := p) h4 hu _) ⟨.bl _, H, I, rfl, q⟩
    · exact SeqAt.notIn_tuple_reads r2 r1 (SeqAt.canLay_of_shaped h5) (SeqAt.canLay_of_shaped h4) (room65 (s := p) h4 hu _) ⟨.bl _, H, I, rfl, q⟩
theorem in_lift {K : PySem.W.Frag} {neg : Bool} {x y : V} {H : Hp} {R : VK} (h : liftO K (oIn neg) x y H R) : rInX K neg x y H R := by
  obtain ⟨F, τ, μ, u, w, Q, rh, ru, rw', q, k⟩ := h
  unfold oIn at q
  split at q
  · obtain ⟨o, e, q⟩ := q
    obtain ⟨a, r, e1, g, rel⟩ := dlook_rep rh rw' ru e
    refine .inl ⟨a, r, e1, g, k.ret rh (RepU.fz (.bl _)) ?_⟩
    rw [rel.isSome]
    exact q
  · obtain ⟨p, s, ps, h1, h2, h3, h4, h5, q⟩ := q
    exact .inr ⟨p, s, ps, dpU_of rh ru h1, dpU_of rh rw' h2, h3, h4, h5, k.ret rh (RepU.fz (.bl _)) q⟩
theorem qo_in (hu : X.A.units + 66 < cLine) : QO X (compareOp .In) (oIn false) := OpR.mono (op_inX hu) fun _ _ _ _ h => in_lift h
theorem qo_notIn (hu : X.A.units + 66 < cLine) : QO X (compareOp .NotIn) (oIn true) := OpR.mono (op_notInX hu) fun _ _ _ _ h => in_lift h
/-! ### is -/
def isNonU : U → Bool
  | .fz .non => true
  | _ => false
def oIs (neg : Bool) : X2 := fun u w μ Q => match u, w with
  | u, .fz .non => Q (.fz (.bl (if neg then !isNonU u else isNonU u))) μ
  | .fz (.bl a), .fz (.bl b) => Q (.fz (.bl (if neg then !decide (a = b) else decide (a = b)))) μ
  | _, _ => False
theorem isNon_rep {K : PySem.W.Frag} {F : Hp} {τ : List Addr} {v : V} {u : U} (r : RepU K F τ v u) : decide (v = .non) = isNonU u := by
  cases u with
  | ptr n =>
    obtain ⟨a, _, rfl⟩ := r
    rfl
  | fz d =>
    have r' : RepD K F v d := r
    cases r' <;> first | rfl | (show decide (_ = V.non) = false; exact decide_eq_false (fun z => nomatch z))
theorem qo_is : QO X (compareOp .Is) (oIs false) := OpR.mono (OpR.or op_isN op_isBl) fun x y H R ⟨F, τ, μ, u, w, Q, rh, ru, rw, q, k⟩ => by
  unfold oIs at q
  split at q
  · have e : y = .non := by cases rw; rfl
    refine .inl ⟨e, k.ret rh (RepU.fz (.bl _)) ?_⟩
    rw [isNon_rep ru]
    exact q
  · exact .inr ⟨_, _, bl_of ru, bl_of rw, k.ret rh (RepU.fz (.bl _)) q⟩
  · exact q.elim
theorem qo_isnot : QO X (compareOp .IsNot) (oIs true) := OpR.mono (OpR.or op_notN op_notBl) fun x y H R ⟨F, τ, μ, u, w, Q, rh, ru, rw, q, k⟩ => by
  unfold oIs at q
  split at q
  · have e : y = .non := by cases rw; rfl
    refine .inl ⟨e, k.ret rh (RepU.fz (.bl _)) ?_⟩
    rw [isNon_rep ru]
    exact q
  · exact .inr ⟨_, _, bl_of ru, bl_of rw, k.ret rh (RepU.fz (.bl _)) q⟩
  · exact q.elim
/-! ### subscripts -/
def oIx : X2 := fun u w μ Q => match u, w with
  | .fz (.tup ds), .fz (.int i) => ∃ d, atI ds i = some d ∧ Q (.fz d) μ
  | .fz (.lst ds), .fz (.int i) => ∃ d, atI ds i = some d ∧ Q (.fz d) μ
  | .fz (.ktup ds), .fz (.int i) => ∃ d, atI ds i = some d ∧ Q (.fz d) μ
  | .fz (.dK kvs), .fz d => ∃ k v, keyD d = some k ∧ look kvs k = some v ∧ Q (.fz v) μ
  | .fz (.dT kvs), .fz (.tup ds) => ∃ k v, keysD ds = some k ∧ look kvs k = some v ∧ Q (.fz v) μ
  | .ptr n, w => match μ[n]? with
    | some (.lst us) => match w with
      | .fz (.int i) => ∃ u, atI us i = some u ∧ Q u μ
      | _ => False
    | some (.dK kvs) => match w with
      | .fz d => ∃ k v, keyD d = some k ∧ look kvs k = some v ∧ Q v μ
      | _ => False
    | some (.dT kvs) => match w with
      | .fz (.tup ds) => ∃ k v, keysD ds = some k ∧ look kvs k = some v ∧ Q v μ
      | _ => False
    | _ => False
  | _, _ => False
def rIxDX : R2 := fun x y H Q => ∃ a v, x = .ref a ∧ DGet H a y (some v) ∧ Q v H
theorem ix_dict (hu : X.A.units + 1 < cLine) : IxR X rIxDX := by
  intro value slice pins s σ H x y v u Q I rx ry h hs
  obtain ⟨a, z, rfl, g, q⟩ := h
  cases rx
  exact tail_any (dict_typeIs I g) PySem.F.slot_dict_getitem.lookup (d_getItem hu I g ry fun w' s3 I3 rw' => ⟨z, H, I3, rw', q⟩) hs
theorem dget_of {K : PySem.W.Frag} {F H : Hp} {τ : List Addr} {μ : Mu} {x y : V} {u w : U} {z : U} {Q : UK} {R : VK} (rh : RepH K F τ μ H) (k : Ct K F τ H Q R) (ru : RepU K F τ x u) (rw' : RepU K F τ y w) (e : dlook μ u w = some (some z)) (q : Q z μ) : rIxDX x y H R := by
  obtain ⟨a, r, e1, g, rel⟩ := dlook_rep rh ru rw' e
  obtain ⟨v, rfl, rv⟩ := rel.some_of
  exact ⟨a, v, e1, g, k.ret rh rv q⟩
theorem ix_lift {K : PySem.W.Frag} {x y : V} {H : Hp} {R : VK} (h : liftO K oIx x y H R) : (rIxL K x y H R ∨ rIxT K x y H R) ∨ rIxDX x y H R := by
  obtain ⟨F, τ, μ, u, w, Q, rh, ru, rw', q, k⟩ := h
  unfold oIx at q
  split at q
  · obtain ⟨d, e, q⟩ := q
    obtain ⟨a, vs, rfl, ha, rd⟩ := tup_of ru
    obtain ⟨v, ev, rv⟩ := atI_rep rd e
    exact .inl (.inr ⟨a, vs, _, v, rfl, int_of rw', sqT_of rh.sub ha, ev, k.ret rh (RepU.fz rv) q⟩)
  · obtain ⟨d, e, q⟩ := q
    obtain ⟨a, vs, rfl, ha, rd⟩ := lst_of ru
    obtain ⟨v, ev, rv⟩ := atI_rep rd e
    exact .inl (.inl ⟨a, vs, _, v, rfl, int_of rw', sqL_of rh.sub ha, ev, k.ret rh (RepU.fz rv) q⟩)
  · obtain ⟨d, e, q⟩ := q
    obtain ⟨a, vs, rfl, ha, rd⟩ := ktup_of ru
    obtain ⟨v, ev, rv⟩ := atI_rep rd e
    exact .inl (.inr ⟨a, vs, _, v, rfl, int_of rw', rh.sub.sqT ha, ev, k.ret rh (RepU.fz rv) q⟩)
  · obtain ⟨kk, v, e1, e2, q⟩ := q
    exact .inr (dget_of rh k ru rw' (by simp only [dlook, e1, e2, Option.map_some]) q)
  · obtain ⟨kk, v, e1, e2, q⟩ := q
    exact .inr (dget_of rh k ru rw' (by simp only [dlook, e1, e2, Option.map_some]) q)
  · split at q
    · rename_i us hn
      split at q
      · obtain ⟨z, e, q⟩ := q
        obtain ⟨a, vs, _, rfl, ha, rus⟩ := ptrL_of rh ru hn
        obtain ⟨v, ev, rv⟩ := atU_rep rus e
        exact .inl (.inl ⟨a, vs, _, v, rfl, int_of rw', .inl (.inl ha), ev, k.ret rh rv q⟩)
      · exact q.elim
    · rename_i kvs hn
      split at q
      · obtain ⟨kk, v, e1, e2, q⟩ := q
        exact .inr (dget_of rh k ru rw' (by simp only [dlook, hn, e1, e2, Option.map_some]) q)
      · exact q.elim
    · rename_i kvs hn
      split at q
      · obtain ⟨kk, v, e1, e2, q⟩ := q
        exact .inr (dget_of rh k ru rw' (by simp only [dlook, hn, e1, e2, Option.map_some]) q)
      · exact q.elim
    · exact q.elim
  · exact q.elim
theorem IxR.mono {r r' : R2} (h : IxR X r) (m : ∀ x y H Q, r' x y H Q → r x y H Q) : IxR X r' := fun value slice pins s σ H x y v u Q I rx ry q hs => h value slice pins s σ H x y v u Q I rx ry (m _ _ _ _ q) hs
theorem qe_ix {a b : Expr} {ta tb : XE} {pos : Pos} (hu : X.A.units + 1 < cLine) (ha : QE X a ta) (hb : QE X b tb) (hs : PlainIx b) : QE X (.Subscript a b pos) (w2 oIx ta tb) :=
  PE.mono (pe_ix (IxR.or (IxR.or ix_list ix_tup) (ix_dict hu)) ha hb hs) fun σ H R h => two (K := X.K) (fun _ _ _ _ z => ix_lift z) h
end
end W3
namespace W3
open PySem PySem.Spec PyProof.Rows L2
/-! ### slices -/
abbrev XO := Rho → Mu → (Option Int → Mu → Prop) → Prop
def liftP (K : PySem.W.Frag) (t : XO) : TO := fun σ H R => ∃ ρ μ F τ Q, Rep K F τ ρ μ σ H ∧ t ρ μ Q ∧ ∀ o μ' F' τ' H', Ext F τ H F' τ' H' → RepH K F' τ' μ' H' → Q o μ' → R o H'
theorem PO.mono {X : Cx} {e : Option Expr} {t t' : TO} (h : PO X e t) (m : ∀ σ H Q, t' σ H Q → t σ H Q) : PO X e t' := ⟨fun pins s σ H Q I q => h.run pins s σ H Q I (m _ _ _ q)⟩
theorem SlR.mono {X : Cx} {r r' : V → Option Int → Option Int → Hp → VK → Prop} (h : SlR X r) (m : ∀ x lo hi H Q, r' x lo hi H Q → r x lo hi H Q) : SlR X r' :=
  fun pins s σ H x v vl vu lo hi sl Q I rx hs pl pu q => h pins s σ H x v vl vu lo hi sl Q I rx hs pl pu (m _ _ _ _ _ q)
theorem CallR.mono {X : Cx} {f : Value} {r r' : List V → Hp → VK → Prop} (h : CallR X f r) (m : ∀ xs H Q, r' xs H Q → r xs H Q) : CallR X f r' := fun pins s σ H xs us Q I rx q => h pins s σ H xs us Q I rx (m _ _ _ q)
abbrev QP (X : Cx) (e : Option Expr) (t : XO) : Prop := PO X e (liftP X.K t)
def wNoPart : XO := fun _ μ Q => Q none μ
def wPart (t : XE) : XO := fun ρ μ Q => t ρ μ fun u μ1 => match u with
  | .fz (.int i) => Q (some i) μ1
  | _ => False
def cutA {α : Type} (xs : List α) (lo hi : Option Int) : List α := (xs.drop (HT.sIx xs.length 0 lo)).take (HT.sIx xs.length xs.length hi - HT.sIx xs.length 0 lo)
theorem RepDs.drop {K : PySem.W.Frag} {F : Hp} : ∀ {vs : List V} {ds : List D} (n : Nat), RepDs K F vs ds → RepDs K F (vs.drop n) (ds.drop n)
  | _, _, 0, r => r
  | _, _, _ + 1, .nil => .nil
  | _, _, n + 1, .cons _ r => RepDs.drop n r
theorem RepDs.take {K : PySem.W.Frag} {F : Hp} : ∀ {vs : List V} {ds : List D} (n : Nat), RepDs K F vs ds → RepDs K F (vs.take n) (ds.take n)
  | _, _, 0, _ => .nil
  | _, _, _ + 1, .nil => .nil
  | _, _, n + 1, .cons h r => .cons h (RepDs.take n r)
theorem RepDs.cut {K : PySem.W.Frag} {F : Hp} {vs : List V} {ds : List D} (r : RepDs K F vs ds) (lo hi : Option Int) : RepDs K F (cutV vs lo hi) (cutA ds lo hi) := by
  unfold cutV cutA
  rw [r.length]
  exact (r.drop _).take _
theorem cutA_all {α : Type} {xs : List α} {lo hi : Option Int} (h : HT.sIx xs.length 0 lo = 0 ∧ HT.sIx xs.length xs.length hi = xs.length) : cutA xs lo hi = xs := by
  unfold cutA
  rw [h.1, h.2, List.drop_zero, Nat.sub_zero, List.take_length]
def oSl (own : Bool) (u : U) (lo hi : Option Int) (μ : Mu) (Q : UK) : Prop := match u with
  | .fz (.tup ds) => Q (.fz (.tup (cutA ds lo hi))) μ
  | .fz (.lst ds) => mkD own (cutA ds lo hi) μ Q
  | .ptr n => match μ[n]? with
    | some (.lst us) => ∃ ds, unU us = some ds ∧ mkD own (cutA ds lo hi) μ Q
    | _ => False
  | .fz (.str z) => z.length ≤ sizeLine ∧ Q (.fz (.str (Txt.slice z lo hi))) μ
  | _ => False
def wSl (own : Bool) (te : XE) (tl th : XO) : XE := fun ρ μ Q => te ρ μ fun u μ1 => tl ρ μ1 fun lo μ2 => th ρ μ2 fun hi μ3 => oSl own u lo hi μ3 Q
section
variable {X : Cx} {e : Expr} {te : XE} {pos p2 : Pos}
theorem qp_none : QP X none wNoPart := PO.mono po_none fun σ H R ⟨ρ, μ, F, τ, Q, r, q, k⟩ => k none μ F τ H (.refl _ _ _) r.h q
theorem qp_some (he : QE X e te) : QP X (some e) (wPart te) := PO.mono (po_some he) fun σ H R ⟨ρ, μ, F, τ, Q, r, q, k⟩ => by
  refine ⟨ρ, μ, F, τ, _, r, q, fun u v μ1 F1 τ1 H1 e1 r1 ru q1 => ?_⟩
  split at q1
  · exact ⟨_, int_of ru, k _ μ1 F1 τ1 H1 e1 r1 q1⟩
  · exact q1.elim
def rSlZ (K : PySem.W.Frag) (own : Bool) : V → Option Int → Option Int → Hp → VK → Prop := fun x lo hi H R => ∃ F τ μ u Q, RepH K F τ μ H ∧ RepU K F τ x u ∧ oSl own u lo hi μ Q ∧ Ct K F τ H Q R
theorem sl_Z (own : Bool) : SlR X (rSlZ X.K own) := SlR.mono (SlR.or sl_tupA (SlR.or sl_list C8.sl_txt)) fun x lo hi H R ⟨F, τ, μ, u, Q, rh, ru, q, k⟩ => by
  unfold oSl at q
  split at q
  · obtain ⟨a, vs, rfl, ha, rd⟩ := tup_of ru
    refine .inl ⟨a, vs, rfl, sqT_of rh.sub ha, fun h => ?_, fun _ => new_tup rh k (rd.cut lo hi) q⟩
    rw [rd.length] at h
    rw [cutA_all h] at q
    exact k.ret rh ru q
  · obtain ⟨a, vs, rfl, ha, rd⟩ := lst_of ru
    exact .inr (.inl ⟨a, vs, rfl, sqL_of rh.sub ha, new_D rh k (rd.cut lo hi) q⟩)
  · split at q
    · rename_i us hn
      obtain ⟨ds, e1, q⟩ := q
      obtain ⟨a, vs, _, rfl, ha, rus⟩ := ptrL_of rh ru hn
      exact .inr (.inl ⟨a, vs, rfl, .inl (.inl ha), new_D rh k ((unU_rep rus e1).cut lo hi) q⟩)
    · exact q.elim
  · exact .inr (.inr ⟨_, str_of ru, q.1, k.ret rh (RepU.fz (.str _)) q.2⟩)
  · exact q.elim
theorem qe_slice {lo hi : Option Expr} {tl th : XO} (own : Bool) (he : QE X e te) (hl : QP X lo tl) (hu : QP X hi th) : QE X (.Subscript e (.Slice lo hi none p2) pos) (wSl own te tl th) :=
  PE.mono (pe_slice (sl_Z own) he hl hu) fun σ H R ⟨ρ, μ, F, τ, Q, r, q, k⟩ => by
    refine ⟨ρ, μ, F, τ, _, r, q, fun u v μ1 F1 τ1 H1 e1 r1 ru q1 => ?_⟩
    refine ⟨ρ, μ1, F1, τ1, _, r.at e1 r1, q1, fun o1 μ2 F2 τ2 H2 e2 r2 q2 => ?_⟩
    refine ⟨ρ, μ2, F2, τ2, _, r.at (e1.trans e2) r2, q2, fun o2 μ3 F3 τ3 H3 e3 r3 q3 => ?_⟩
    exact ⟨F3, τ3, μ3, u, Q, r3, (ru.at e2).at e3, q3, k.at (e1.trans (e2.trans e3))⟩
/-! ### calls of built-ins by values -/
abbrev XC := List U → Mu → UK → Prop
def liftC (K : PySem.W.Frag) (o : XC) : List V → Hp → VK → Prop := fun xs H R => ∃ F τ μ us Q, RepH K F τ μ H ∧ RepUs K F τ xs us ∧ o us μ Q ∧ Ct K F τ H Q R
abbrev QC (X : Cx) (f : Value) (o : XC) : Prop := CallR X f (liftC X.K o)
def wCall (o : XC) (t : XA) : XE := fun ρ μ Q => t ρ μ fun us μ1 => o us μ1 Q
theorem callx {K : PySem.W.Frag} {o : XC} {t : XA} {σ : Sl} {H : Hp} {R : VK} (h : liftE K (wCall o t) σ H R) : tCB (liftC K o) (liftA K t) σ H R := by
  obtain ⟨ρ, μ, F, τ, Q, r, q, k⟩ := h
  exact ⟨ρ, μ, F, τ, _, r, q, fun us vs μ1 F1 τ1 H1 e1 r1 rus q1 => ⟨F1, τ1, μ1, us, Q, r1, rus, q1, k.at e1⟩⟩
variable {x : Str} {p : Pos} {es : List Expr} {t : XA} {o : XC}
theorem qe_callB {id : String} (hc : QC X (.builtin id) o) (hv : bootBuiltins x = some (.builtin id)) (hm : X.mg x = none) (ha : QA X (e :: es) t) (hg : Gl X x := by rfl) (hn : x ≠ "__name__" := by decide) (hdb : (x == ("__debug__" : Str)) = false := by decide)
    (he : starEach (e :: es) X.env = (false, eval e X.env) :: starEach es X.env := by rfl) (hpl : (backTo pos (starEach es X.env)).any (·.1) = false := by rfl) : QE X (.Call (.Name x p) (e :: es) [] pos) (wCall o t) :=
  PE.mono (pe_callB hc hg hm hv ha hn hdb he hpl) fun _ _ _ h => callx h
theorem qe_callT {T : String} (hc : QC X (.type T) o) (hv : bootBuiltins x = some (.type T)) (hm : X.mg x = none) (ha : QA X (e :: es) t) (hg : Gl X x := by rfl) (hn : x ≠ "__name__" := by decide) (hdb : (x == ("__debug__" : Str)) = false := by decide)
    (he : starEach (e :: es) X.env = (false, eval e X.env) :: starEach es X.env := by rfl) (hpl : (backTo pos (starEach es X.env)).any (·.1) = false := by rfl) : QE X (.Call (.Name x p) (e :: es) [] pos) (wCall o t) :=
  PE.mono (pe_callTy hc hg hm hv ha hn hdb he hpl) fun _ _ _ h => callx h
/-- one argument -/
def c1 (o : U → Mu → UK → Prop) : XC := fun us μ Q => match us with
  | [u] => o u μ Q
  | _ => False
theorem c1_of {K : PySem.W.Frag} {o : U → Mu → UK → Prop} {xs : List V} {H : Hp} {R : VK} (h : liftC K (c1 o) xs H R) : ∃ F τ μ x u Q, xs = [x] ∧ RepH K F τ μ H ∧ RepU K F τ x u ∧ o u μ Q ∧ Ct K F τ H Q R := by
  obtain ⟨F, τ, μ, us, Q, rh, rus, q, k⟩ := h
  unfold c1 at q
  split at q
  · cases rus with
    | cons h r =>
      cases r
      exact ⟨F, τ, μ, _, _, Q, rfl, rh, h, q, k⟩
  · exact q.elim
theorem call_len_rdK : CallR X (.builtin "len") (fun xs H Q => ∃ a kvs, xs = [V.ref a] ∧ L2.Rd H a (.dK kvs) ∧ Q (.int ((kvs.length : Nat) : Int)) H) := by
  intro pins s σ H xs us Q I r h
  obtain ⟨a, kvs, rfl, ha, q⟩ := h
  obtain ⟨u, rfl, ru⟩ := vals1 r
  cases ru
  exact d_len I ha fun t s' I' => ⟨.int kvs.length, H, I', ⟨t, rfl⟩, q⟩
theorem call_len_rdT : CallR X (.builtin "len") (fun xs H Q => ∃ a kvs, xs = [V.ref a] ∧ L2.Rd H a (.dT kvs) ∧ Q (.int ((kvs.length : Nat) : Int)) H) := by
  intro pins s σ H xs us Q I r h
  obtain ⟨p, kvs, rfl, hp, q⟩ := h
  obtain ⟨u, rfl, rx⟩ := vals1 r
  obtain rfl : u = .ref p := rx
  obtain ⟨z, hd, ys, rel, dd⟩ := dt_rd I.hok hp
  have hl : kvs.length = ys.length := Paired.length rel
  refine call_len_dictH hd dd (by rw [← hl]; rw [sizeLine_eq] at z; omega) ?_
  rw [← hl]
  exact ⟨.int ((kvs.length : Nat) : Int), H, I.tok _, ⟨_, rfl⟩, q⟩
theorem RepK1.lengthF {K : PySem.W.Frag} {F : Hp} : ∀ {vs : List (Key × V)} {ds : List (Key × D)}, RepK1 K F vs ds → vs.length = ds.length
  | _, _, .nil => rfl
  | _, _, .cons _ r => congrArg (· + 1) (RepK1.lengthF r)
theorem RepK2.lengthF {K : PySem.W.Frag} {F : Hp} : ∀ {vs : List (List Key × V)} {ds : List (List Key × D)}, RepK2 K F vs ds → vs.length = ds.length
  | _, _, .nil => rfl
  | _, _, .cons _ r => congrArg (· + 1) (RepK2.lengthF r)
def oLen : U → Mu → UK → Prop := fun u μ Q => match u with
  | .fz (.lst ds) => Q (.fz (.int ds.length)) μ
  | .fz (.tup ds) => Q (.fz (.int ds.length)) μ
  | .fz (.slst ds) => Q (.fz (.int ds.length)) μ
  | .fz (.ktup ds) => Q (.fz (.int ds.length)) μ
  | .fz (.str z) => z.length ≤ sizeLine ∧ Q (.fz (.int z.length)) μ
  | .fz (.dK kds) => Q (.fz (.int ((kds.length : Nat) : Int))) μ
  | .fz (.dT kds) => Q (.fz (.int ((kds.length : Nat) : Int))) μ
  | .ptr n => match μ[n]? with
    | some (.lst us) => Q (.fz (.int us.length)) μ
    | some (.dK us) => Q (.fz (.int us.length)) μ
    | some (.dT us) => Q (.fz (.int us.length)) μ
    | _ => False
  | _ => False
theorem RepKU.length {κ : Type} {K : PySem.W.Frag} {F : Hp} {τ : List Addr} {vs : List (κ × V)} {us : List (κ × U)} (r : RepKU K F τ vs us) : vs.length = us.length := Paired.length r
theorem qc_len : QC X (.builtin "len") (c1 oLen) := CallR.mono (CallR.or (CallR.or call_len_seq call_len_str) (CallR.or call_len_rdK call_len_rdT)) fun xs H R h => by
  obtain ⟨F, τ, μ, v, u, Q, rfl, rh, ru, q, k⟩ := c1_of h
  unfold oLen at q
  split at q
  · obtain ⟨a, vs, rfl, ha, rd⟩ := lst_of ru
    exact .inl (.inl ⟨a, vs, rfl, .inl (sqL_of rh.sub ha), k.ret rh (RepU.fz (.int _)) (by rw [rd.length]; exact q)⟩)
  · obtain ⟨a, vs, rfl, ha, rd⟩ := tup_of ru
    exact .inl (.inl ⟨a, vs, rfl, .inr (sqT_of rh.sub ha), k.ret rh (RepU.fz (.int _)) (by rw [rd.length]; exact q)⟩)
  · obtain ⟨a, vs, rfl, ha, rd⟩ := slst_of ru
    exact .inl (.inl ⟨a, vs, rfl, .inl (rh.sub.sqL ha), k.ret rh (RepU.fz (.int _)) (by rw [rd.length]; exact q)⟩)
  · obtain ⟨a, vs, rfl, ha, rd⟩ := ktup_of ru
    exact .inl (.inl ⟨a, vs, rfl, .inr (rh.sub.sqT ha), k.ret rh (RepU.fz (.int _)) (by rw [rd.length]; exact q)⟩)
  · exact .inl (.inr ⟨_, by rw [str_of ru], q.1, k.ret rh (RepU.fz (.int _)) q.2⟩)
  · cases ru with
    | dK h1 r1 => exact .inr (.inl ⟨_, _, rfl, rh.sub.dK _ _ h1, k.ret rh (RepU.fz (.int _)) (by rw [r1.lengthF]; exact q)⟩)
  · cases ru with
    | dT h1 r1 => exact .inr (.inr ⟨_, _, rfl, rh.sub.dT _ _ h1, k.ret rh (RepU.fz (.int _)) (by rw [r1.lengthF]; exact q)⟩)
  · split at q
    · rename_i us hn
      obtain ⟨a, vs, _, rfl, ha, rus⟩ := ptrL_of rh ru hn
      exact .inl (.inl ⟨a, vs, rfl, .inl (.inl (.inl ha)), k.ret rh (RepU.fz (.int _)) (by rw [RepUs.length rus]; exact q)⟩)
    · rename_i us hn
      obtain ⟨a, vs, _, rfl, ha, rus⟩ := ptrK_of rh ru hn
      exact .inr (.inl ⟨a, vs, rfl, .inl ha, k.ret rh (RepU.fz (.int _)) (by rw [RepKU.length rus]; exact q)⟩)
    · rename_i us hn
      obtain ⟨a, vs, _, rfl, ha, rus⟩ := ptrT_of rh ru hn
      exact .inr (.inr ⟨a, vs, rfl, .inl ha, k.ret rh (RepU.fz (.int _)) (by rw [RepKU.length rus]; exact q)⟩)
    · exact q.elim
  · exact q.elim
def oAbs : U → Mu → UK → Prop := fun u μ Q => match u with
  | .fz (.int i) => Q (.fz (.int (if i < 0 then -i else i))) μ
  | _ => False
theorem qc_abs : QC X (.builtin "abs") (c1 oAbs) := CallR.mono call_abs fun xs H R h => by
  obtain ⟨F, τ, μ, v, u, Q, rfl, rh, ru, q, k⟩ := c1_of h
  unfold oAbs at q
  split at q
  · exact ⟨_, by rw [int_of ru], k.ret rh (RepU.fz (.int _)) q⟩
  · exact q.elim
def oInt : U → Mu → UK → Prop := fun u μ Q => match u with
  | .fz (.int i) => Q (.fz (.int i)) μ
  | .fz (.bl b) => Q (.fz (.int (if b then 1 else 0))) μ
  | _ => False
theorem qc_int : QC X (.type "int") (c1 oInt) := CallR.mono call_int1 fun xs H R h => by
  obtain ⟨F, τ, μ, v, u, Q, rfl, rh, ru, q, k⟩ := c1_of h
  unfold oInt at q
  split at q
  · exact .inl ⟨_, by rw [int_of ru], k.ret rh (RepU.fz (.int _)) q⟩
  · exact .inr ⟨_, by rw [bl_of ru], k.ret rh (RepU.fz (.int _)) q⟩
  · exact q.elim
/-- the items of a list (or tuple) as data -/
def seqD (μ : Mu) : U → Option (List D)
  | .fz (.lst ds) => some ds
  | .fz (.slst ds) => some ds
  | .ptr n => match μ[n]? with
    | some (.lst us) => unU us
    | _ => none
  | _ => none
theorem seqD_rep {K : PySem.W.Frag} {F H : Hp} {τ : List Addr} {μ : Mu} {v : V} {u : U} {ds : List D} (rh : RepH K F τ μ H) (ru : RepU K F τ v u) (e : seqD μ u = some ds) : ∃ a vs, v = .ref a ∧ SqL K H a vs ∧ RepDs K F vs ds := by
  unfold seqD at e
  split at e
  · cases e
    obtain ⟨a, vs, rfl, ha, rd⟩ := lst_of ru
    exact ⟨a, vs, rfl, sqL_of rh.sub ha, rd⟩
  · cases e
    obtain ⟨a, vs, rfl, ha, rd⟩ := slst_of ru
    exact ⟨a, vs, rfl, rh.sub.sqL ha, rd⟩
  · split at e
    · rename_i us hn
      obtain ⟨a, vs, _, rfl, ha, rus⟩ := ptrL_of rh ru hn
      exact ⟨a, vs, rfl, .inl (.inl ha), unU_rep rus e⟩
    · cases e
  · cases e
def oTuple : U → Mu → UK → Prop := fun u μ Q => match u with
  | .fz (.lst ds) => Q (.fz (.tup ds)) μ
  | .fz (.tup ds) => Q (.fz (.tup ds)) μ
  | u => ∃ ds, seqD μ u = some ds ∧ Q (.fz (.tup ds)) μ
theorem qc_tuple : QC X (.type "tuple") (c1 oTuple) := CallR.mono call_tuple_of fun xs H R h => by
  obtain ⟨F, τ, μ, v, u, Q, rfl, rh, ru, q, k⟩ := c1_of h
  unfold oTuple at q
  split at q
  · obtain ⟨a, vs, rfl, ha, rd⟩ := lst_of ru
    exact ⟨a, vs, rfl, .inl ⟨sqL_of rh.sub ha, new_tup rh k rd q⟩⟩
  · obtain ⟨a, vs, rfl, ha, rd⟩ := tup_of ru
    exact ⟨a, vs, rfl, .inr ⟨sqT_of rh.sub ha, k.ret rh ru q⟩⟩
  · obtain ⟨ds, e, q⟩ := q
    obtain ⟨a, vs, rfl, ha, rd⟩ := seqD_rep rh ru e
    exact ⟨a, vs, rfl, .inl ⟨ha, new_tup rh k rd q⟩⟩
def oList (own : Bool) : U → Mu → UK → Prop := fun u μ Q => match u with
  | .fz (.lst ds) => mkD own ds μ Q
  | .fz (.tup ds) => mkD own ds μ Q
  | u => ∃ ds, seqD μ u = some ds ∧ mkD own ds μ Q
theorem qc_list (own : Bool) : QC X (.type "list") (c1 (oList own)) := CallR.mono call_list_of fun xs H R h => by
  obtain ⟨F, τ, μ, v, u, Q, rfl, rh, ru, q, k⟩ := c1_of h
  unfold oList at q
  split at q
  · obtain ⟨a, vs, rfl, ha, rd⟩ := lst_of ru
    exact ⟨a, vs, rfl, .inl (sqL_of rh.sub ha), new_D rh k rd q⟩
  · obtain ⟨a, vs, rfl, ha, rd⟩ := tup_of ru
    exact ⟨a, vs, rfl, .inr (sqT_of rh.sub ha), new_D rh k rd q⟩
  · obtain ⟨ds, e, q⟩ := q
    obtain ⟨a, vs, rfl, ha, rd⟩ := seqD_rep rh ru e
    exact ⟨a, vs, rfl, .inl ha, new_D rh k rd q⟩
theorem RepDs.ints {K : PySem.W.Frag} {F : Hp} : ∀ {vs : List V} {ns : List Int}, RepDs K F vs (ns.map .int) → vs = ns.map V.int
  | _, [], .nil => rfl
  | _, n :: ns, .cons h r => by
    cases h
    rw [RepDs.ints r]
    rfl
theorem RepDs.bools {K : PySem.W.Frag} {F : Hp} : ∀ {vs : List V} {ns : List Bool}, RepDs K F vs (ns.map .bl) → vs = ns.map V.bl
  | _, [], .nil => rfl
  | _, n :: ns, .cons h r => by
    cases h
    rw [RepDs.bools r]
    rfl
def intsOf : List Int → List D := List.map .int
theorem repInts {K : PySem.W.Frag} {F : Hp} : ∀ ns : List Int, RepDs K F (ns.map V.int) (ns.map .int)
  | [] => .nil
  | _ :: r => .cons (.int _) (repInts r)
def oSum : U → Mu → UK → Prop := fun u μ Q => ∃ ns : List Int, seqD μ u = some (ns.map .int) ∧ Q (.fz (.int ns.sum)) μ
theorem qc_sum (hc : X.calm = true) : QC X (.builtin "sum") (c1 oSum) := CallR.mono (cr_sum hc) fun xs H R h => by
  obtain ⟨F, τ, μ, v, u, Q, rfl, rh, ru, ⟨ns, e, q⟩, k⟩ := c1_of h
  obtain ⟨a, vs, rfl, ha, rd⟩ := seqD_rep rh ru e
  have e2 := rd.ints
  subst e2
  exact ⟨a, ns, rfl, ha, k.ret rh (RepU.fz (.int _)) q⟩
def oAll : U → Mu → UK → Prop := fun u μ Q => ∃ bs : List Bool, seqD μ u = some (bs.map .bl) ∧ Q (.fz (.bl (bs.all id))) μ
theorem qc_all (hc : X.calm = true) : QC X (.builtin "all") (c1 oAll) := CallR.mono (cr_all hc) fun xs H R h => by
  obtain ⟨F, τ, μ, v, u, Q, rfl, rh, ru, ⟨ns, e, q⟩, k⟩ := c1_of h
  obtain ⟨a, vs, rfl, ha, rd⟩ := seqD_rep rh ru e
  have e2 := rd.bools
  subst e2
  exact ⟨a, ns, rfl, ha, k.ret rh (RepU.fz (.bl _)) q⟩
def oAny : U → Mu → UK → Prop := fun u μ Q => ∃ bs : List Bool, seqD μ u = some (bs.map .bl) ∧ Q (.fz (.bl (bs.any id))) μ
theorem qc_any (hc : X.calm = true) : QC X (.builtin "any") (c1 oAny) := CallR.mono (cr_any hc) fun xs H R h => by
  obtain ⟨F, τ, μ, v, u, Q, rfl, rh, ru, ⟨ns, e, q⟩, k⟩ := c1_of h
  obtain ⟨a, vs, rfl, ha, rd⟩ := seqD_rep rh ru e
  have e2 := rd.bools
  subst e2
  exact ⟨a, ns, rfl, ha, k.ret rh (RepU.fz (.bl _)) q⟩
def oMax : U → Mu → UK → Prop := fun u μ Q => ∃ (ns : List Int) (m : Int), seqD μ u = some (ns.map .int) ∧ m ∈ ns ∧ (∀ y, y ∈ ns → y ≤ m) ∧ Q (.fz (.int m)) μ
theorem qc_max (hc : X.calm = true) : QC X (.builtin "max") (c1 oMax) := CallR.mono (cr_max hc) fun xs H R h => by
  obtain ⟨F, τ, μ, v, u, Q, rfl, rh, ru, ⟨ns, m, e, hm, hb, q⟩, k⟩ := c1_of h
  obtain ⟨a, vs, rfl, ha, rd⟩ := seqD_rep rh ru e
  have e2 := rd.ints
  subst e2
  refine ⟨a, ns, rfl, ha, List.length_pos_of_mem hm, fun m' h1 h2 => ?_⟩
  have e3 : m' = m := Int.le_antisymm (hb _ h1) (h2 _ hm)
  rw [e3]
  exact k.ret rh (RepU.fz (.int _)) q
def oMin : U → Mu → UK → Prop := fun u μ Q => ∃ (ns : List Int) (m : Int), seqD μ u = some (ns.map .int) ∧ m ∈ ns ∧ (∀ y, y ∈ ns → m ≤ y) ∧ Q (.fz (.int m)) μ
theorem qc_min (hc : X.calm = true) : QC X (.builtin "min") (c1 oMin) := CallR.mono (cr_min hc) fun xs H R h => by
  obtain ⟨F, τ, μ, v, u, Q, rfl, rh, ru, ⟨ns, m, e, hm, hb, q⟩, k⟩ := c1_of h
  obtain ⟨a, vs, rfl, ha, rd⟩ := seqD_rep rh ru e
  have e2 := rd.ints
  subst e2
  refine ⟨a, ns, rfl, ha, List.length_pos_of_mem hm, fun m' h1 h2 => ?_⟩
  have e3 : m' = m := Int.le_antisymm (h2 _ hm) (hb _ h1)
  rw [e3]
  exact k.ret rh (RepU.fz (.int _)) q
def oSorted (own : Bool) : U → Mu → UK → Prop := fun u μ Q => ∃ ns ms : List Int, seqD μ u = some (ns.map .int) ∧ ms.Perm ns ∧ ms.Pairwise (· ≤ ·) ∧ mkD own (ms.map .int) μ Q
theorem sorted_one : ∀ {xs ys : List Int}, xs.Perm ys → xs.Pairwise (· ≤ ·) → ys.Pairwise (· ≤ ·) → xs = ys := fun p h1 h2 => p.eq_of_pairwise (fun a b _ _ h3 h4 => Int.le_antisymm h3 h4) h1 h2
theorem qc_sorted (own : Bool) : QC X (.builtin "sorted") (c1 (oSorted own)) := CallR.mono cr_sortedI fun xs H R h => by
  obtain ⟨F, τ, μ, v, u, Q, rfl, rh, ru, ⟨ns, ms, e, hp, hs, q⟩, k⟩ := c1_of h
  obtain ⟨a, vs, rfl, ha, rd⟩ := seqD_rep rh ru e
  have e2 := rd.ints
  subst e2
  refine ⟨a, ns, rfl, ha, fun ms' p h1 h2 hp' => ?_⟩
  have e3 : ms' = ms := sorted_one (h1.trans hp.symm) h2 hs
  subst e3
  exact new_D rh k (repInts _) q p hp'
/-- two arguments -/
def c2 (o : U → U → Mu → UK → Prop) : XC := fun us μ Q => match us with
  | [u, w] => o u w μ Q
  | _ => False
theorem c2_of {K : PySem.W.Frag} {o : U → U → Mu → UK → Prop} {xs : List V} {H : Hp} {R : VK} (h : liftC K (c2 o) xs H R) : ∃ F τ μ x y u w Q, xs = [x, y] ∧ RepH K F τ μ H ∧ RepU K F τ x u ∧ RepU K F τ y w ∧ o u w μ Q ∧ Ct K F τ H Q R := by
  obtain ⟨F, τ, μ, us, Q, rh, rus, q, k⟩ := h
  unfold c2 at q
  split at q
  · cases rus with
    | cons h r =>
      cases r with
      | cons h' r =>
        cases r
        exact ⟨F, τ, μ, _, _, _, _, Q, rfl, rh, h, h', q, k⟩
  · exact q.elim
def oMax2 : U → U → Mu → UK → Prop := fun u w μ Q => match u, w with
  | .fz (.int i), .fz (.int j) => Q (.fz (.int (if j > i then j else i))) μ
  | _, _ => False
theorem qc_max2 (hc : X.calm = true) : QC X (.builtin "max") (c2 oMax2) := CallR.mono (call_max2 hc) fun xs H R h => by
  obtain ⟨F, τ, μ, x, y, u, w, Q, rfl, rh, ru, rw', q, k⟩ := c2_of h
  unfold oMax2 at q
  split at q
  · exact ⟨_, _, by rw [int_of ru, int_of rw'], k.ret rh (RepU.fz (.int _)) q⟩
  · exact q.elim
def oMin2 : U → U → Mu → UK → Prop := fun u w μ Q => match u, w with
  | .fz (.int i), .fz (.int j) => Q (.fz (.int (if j < i then j else i))) μ
  | _, _ => False
theorem qc_min2 (hc : X.calm = true) : QC X (.builtin "min") (c2 oMin2) := CallR.mono (call_min2 hc) fun xs H R h => by
  obtain ⟨F, τ, μ, x, y, u, w, Q, rfl, rh, ru, rw', q, k⟩ := c2_of h
  unfold oMin2 at q
  split at q
  · exact ⟨_, _, by rw [int_of ru, int_of rw'], k.ret rh (RepU.fz (.int _)) q⟩
  · exact q.elim
/-! ### isinstance -/
/-- the built-in type of a value -/
def tyOf (μ : Mu) : U → Option String
  | .fz .non => some "NoneType"
  | .fz (.bl _) => some "bool"
  | .fz (.int _) => some "int"
  | .fz (.str _) => some "str"
  | .fz (.tup _) => some "tuple"
  | .fz (.ktup _) => some "tuple"
  | .fz (.lst _) => some "list"
  | .ptr k => match μ[k]? with
    | some (.lst _) => some "list"
    | _ => none
  | _ => none
/-- is a value an instance of the built-in class? -/
inductive Kl where
  | int | bool | str | tuple
def Kl.name : Kl → String
  | .int => "int" | .bool => "bool" | .str => "str" | .tuple => "tuple"
def isiU (c : Kl) (μ : Mu) : U → Option Bool
  | .fz .non => some false
  | .fz (.bl _) => some (match c with | .int => true | .bool => true | _ => false)
  | .fz (.int _) => some (match c with | .int => true | _ => false)
  | .fz (.str _) => some (match c with | .str => true | _ => false)
  | .fz (.tup _) => some (match c with | .tuple => true | _ => false)
  | .fz (.ktup _) => some (match c with | .tuple => true | _ => false)
  | .fz (.lst _) => some false
  | .ptr k => match μ[k]? with
    | some (.lst _) => some false
    | _ => none
  | _ => none
theorem kit_non (c : Kl) : kitB "NoneType" c.name = some false := by cases c <;> decide +kernel
theorem kit_bl (c : Kl) : kitB "bool" c.name = some (match c with | .int => true | .bool => true | _ => false) := by cases c <;> decide +kernel
theorem kit_int (c : Kl) : kitB "int" c.name = some (match c with | .int => true | _ => false) := by cases c <;> decide +kernel
theorem kit_str (c : Kl) : kitB "str" c.name = some (match c with | .str => true | _ => false) := by cases c <;> decide +kernel
theorem kit_tup (c : Kl) : kitB "tuple" c.name = some (match c with | .tuple => true | _ => false) := by cases c <;> decide +kernel
theorem kit_lst (c : Kl) : kitB "list" c.name = some false := by cases c <;> decide +kernel
theorem isi_rep {K : PySem.W.Frag} {F H : Hp} {τ : List Addr} {μ : Mu} {v : V} {u : U} {c : Kl} {b : Bool} (rh : RepH K F τ μ H) (ru : RepU K F τ v u) (e : isiU c μ u = some b) : ∃ n, TyX K H v (.type n) ∧ kitB n c.name = some b := by
  unfold isiU at e
  split at e
  · cases e; cases ru; exact ⟨_, .base .non, kit_non c⟩
  · cases e; cases ru; exact ⟨_, .base (.bl _), kit_bl c⟩
  · cases e; cases ru; exact ⟨_, .base (.int _), kit_int c⟩
  · cases e; cases ru; exact ⟨_, .base (.str _), kit_str c⟩
  · cases e
    obtain ⟨a, vs, rfl, ha, rd⟩ := tup_of ru
    exact ⟨_, .base (.tup (rh.sub.tup _ _ ha)), kit_tup c⟩
  · cases e
    obtain ⟨a, vs, rfl, ha, rd⟩ := ktup_of ru
    refine ⟨"tuple", ?_, kit_tup c⟩
    rcases rh.sub.sqT ha with (h | ⟨o, h⟩) | ⟨o, _, _, h, hc, _⟩
    · exact .base (.tup h)
    · exact .fTuple h
    · exact .kTuple h hc
  · cases e
    obtain ⟨a, vs, rfl, ha, rd⟩ := lst_of ru
    exact ⟨_, .base (.lst (rh.sub.lst _ _ ha)), kit_lst c⟩
  · split at e
    · rename_i us hn
      cases e
      obtain ⟨a, vs, _, rfl, ha, _⟩ := ptrL_of rh ru hn
      exact ⟨_, .base (.lst ha), kit_lst c⟩
    · cases e
  · cases e
def oIsi (c : Kl) : U → U → Mu → UK → Prop := fun u w μ Q => match w with
  | .fz (.ty n) => n = c.name ∧ ∃ b, isiU c μ u = some b ∧ Q (.fz (.bl b)) μ
  | _ => False
theorem qc_isi (c : Kl) : QC X (.builtin "isinstance") (c2 (oIsi c)) := CallR.mono call_isi fun xs H R h => by
  obtain ⟨F, τ, μ, x, y, u, w, Q, rfl, rh, ru, rw', q, k⟩ := c2_of h
  unfold oIsi at q
  split at q
  · obtain ⟨rfl, b, e, q⟩ := q
    cases rw'
    obtain ⟨n, ty, kt⟩ := isi_rep rh ru e
    exact ⟨x, _, _, _, b, rfl, .ty _, ty, kit_ty kt, k.ret rh (RepU.fz (.bl _)) q⟩
  · exact q.elim
theorem qe_ty {n : String} (hm : X.mg x = none) (hv : bootBuiltins x = some (.type n)) (hg : Gl X x := by rfl) (hn : x ≠ "__name__" := by decide) (hd : (x == ("__debug__" : Str)) = false := by decide) : QE X (.Name x pos) (wC (.ty n)) :=
  qe_const (pe_bltn (v := .ty n) hg hm hv rfl hn hd) fun _ => .ty n
end
end W3
namespace W3
open PySem PySem.Spec PyProof.Rows L2
/-! ### enumerate of one argument, told by how its items are begun -/
set_option maxHeartbeats 1000000 in
theorem enum_new1 {v : Value} {o : Obj} {G : Heap → Prop} (B : Begins v o G) :
    Meets (Builtin.«enumerate.__new__» ⟨[.type "enumerate", v], []⟩)
      (fun _ R s => G s.heap ∧ R (.ok (.ret (.ref (s.heap.push o).objs.size)))
        { s with heap := (s.heap.push o).push { cls := .type "enumerate", data := .fields #[.none, .bool false, .ref s.heap.objs.size, rawInt 0, .none, .none] } }) :=
  .of_wp fun prog w A R s hs => by
    obtain ⟨hp, g, d, tk, os⟩ := s
    obtain ⟨g1, hr⟩ := hs
    have hsubE := sub_enumerate
    have it1 : ∀ {A' : Around} {E : Value → Shared → Prop} {Q : Value → Shared → Prop}, Q (.ref hp.objs.size) ⟨hp.push o, g, d, tk, os⟩ →
        wpAny (model prog w) A' (pyIter v) Q E ⟨hp, g, d, tk, os⟩ :=
      fun z => B.iter prog w _ _ ⟨hp, g, d, tk, os⟩ _ g1 z
    wp_walk using it1
    refine wpAny_stack_any fun st => wpAny_pure ?_
    split
    · rename_i c _ _ _ _ _
      cases (c == Value.type "enumerate") <;> (wp_walk using it1; exact ⟨_, rfl, hr⟩)
    · wp_walk using it1
      exact ⟨_, rfl, hr⟩
section
variable {prog : Program} {w : World} {A : Around} {E : Value → Shared → Prop} {s : Shared}
theorem enum_call1 {v : Value} {o : Obj} {G : Heap → Prop} {Q : Value → Shared → Prop} (B : Begins v o G) (g1 : G s.heap)
    (hq : ∀ h', IsEnum h' (s.heap.objs.size + 1) s.heap.objs.size 0 .none → h'.get? s.heap.objs.size = some o →
      (∀ b u, s.heap.get? b = some u → h'.get? b = some u) → Q (.ref (s.heap.objs.size + 1)) { s with heap := h' }) :
    wpAny (model prog w) A (call (.type "enumerate") [v]) Q E s := by
  refine callType_new F.called_enumerate (by decide) (F.typeCall_enumerate_1 _) (F.newCall_enumerate_1 _)
    (fun obj => F.args_object_init_2 obj _) F.entry_enumerate_new (enum_new1 B) ⟨g1, ?_⟩
  have sz : (s.heap.push o).objs.size = s.heap.objs.size + 1 := Heap.size_push ..
  show _ ∧ _
  rw [sz]
  have isE : IsEnum ((s.heap.push o).push { cls := .type "enumerate", data := .fields #[.none, .bool false, .ref s.heap.objs.size, rawInt 0, .none, .none] })
      (s.heap.objs.size + 1) s.heap.objs.size 0 .none := by
    have z := Heap.get?_push_size (s.heap.push o)
      (o := { cls := .type "enumerate", data := .fields #[.none, .bool false, .ref s.heap.objs.size, rawInt 0, .none, .none] }) rfl
    rw [sz] at z
    exact z
  exact ⟨⟨_, isE, rfl⟩, hq _ isE (Heap.get?_push_of_some _ (Heap.get?_push_size _ B.free)) fun b u z => Heap.get?_push_of_some _ (Heap.get?_push_of_some _ z)⟩
end
/-- the tuple at a, its items in new pairs with their numbers -/
def IteT (K : PySem.W.Frag) (a : Addr) : It :=
  ⟨fun i H => ∃ (xs : List V) (x : V), SqT K H a xs ∧ xs[i]? = some x,
    fun i H v H' => ∃ T x, v = .ref T ∧ H T = none ∧ H' = upd H T (.tup [.int (i : Nat), x]) ∧ ∀ xs, SqT K H a xs → xs[i]? = some x,
    fun i H => ∃ xs : List V, SqT K H a xs ∧ xs.length ≤ i⟩
/-- the walker's state -/
def EnT (a e it : Addr) (i : Nat) (h : Heap) : Prop := (∃ old, IsEnum h e it ((i : Nat) : Int) old) ∧ h.IsTupleIter it a i ∧ e ≠ it ∧ a ≠ it ∧ a ≠ e
theorem turn_enumT {P : Program} {w : World} {K : PySem.W.Frag} {elts : List Expr} {kk : Nat} {tpos : Pos} (a e it : Addr) :
    Turn P w K (.Tuple elts kk tpos) (IteT K a) [e, it] e (EnT a e it) where
  mem := List.mem_cons_self
  obj := fun i h st b hb => by
    obtain ⟨⟨old, isE⟩, ⟨o, ho, hc, hd⟩, _⟩ := st
    rcases List.mem_cons.mp hb with z | z
    · exact ⟨_, z ▸ isE, fun v q => by cases q⟩
    · have z' : b = it := by simpa using z
      exact ⟨o, z' ▸ ho, fun v q => by rw [hd] at q; cases q⟩
  keep := fun i h h' st k => by
    obtain ⟨⟨old, isE⟩, hi, hne⟩ := st
    exact ⟨⟨old, k e List.mem_cons_self _ isE⟩, hi.at fun o q => k it (List.mem_cons_of_mem _ List.mem_cons_self) o q, hne⟩
  item := by
    intro X hP hw hK hc i pins s σ H E I hf st hg
    subst hP hw hK
    obtain ⟨⟨old, isE⟩, hit, hne, hai, hae⟩ := st
    obtain ⟨xs, x, hq, hx⟩ := hg
    obtain ⟨its, rv, ist, hz⟩ := I.tuple hq
    obtain ⟨u, hu, ru⟩ := rv.get hx
    have hel : e < s.heap.objs.size := Heap.lt_size isE
    have hil : it < s.heap.objs.size := by
      obtain ⟨_, z, _⟩ := hit
      exact Heap.lt_size z
    have hlt : i < its.toArray.size := by
      have z := (List.getElem?_eq_some_iff.mp hu).1
      simpa using z
    refine wpAny_pyNext_enum_itemD (Draws.tuple (show X.A.in1.handled = none from I.ok.hd hc) it a hai its.toArray) isE
      (show s.heap.IsTupleIter it a i ∧ s.heap.IsTuple a its.toArray from ⟨hit, ist⟩) hlt hne (by simp only [List.mem_cons, List.not_mem_nil, or_false, not_or]; exact ⟨hne, fun z => hae z.symm⟩)
      fun y h' tk hy hout st' hT hsz hk => ?_
    have hy' : u = y := by
      have z : its.toArray[i]? = some u := by simpa using hu
      exact Option.some.inj (z.symm.trans hy)
    subst hy'
    refine ⟨_, rfl, wpAny_letOwnedTupleGo_enum (s := { s with heap := h', toks := tk + 1 }) hout fun h2 isE2 sb => ?_⟩
    have hT2 : h2.get? s.heap.objs.size = some { cls := .type "tuple", data := .seq #[.int i tk, u] } := (sb.2 _ (Nat.ne_of_gt hel)).trans hT
    have made : ObjOk X.prog X.w (upd H s.heap.objs.size (.tup [.int (i : Nat), x])) h2 s.heap.objs.size (.tup [.int (i : Nat), x]) :=
      ⟨by show 2 ≤ sizeLine; decide, [.int i tk, u], .cons ⟨_, rfl⟩ (.cons ru .nil), ⟨_, hT2, rfl, _, rfl⟩⟩
    have I2 : Inv X pins σ (upd H s.heap.objs.size (.tup [.int (i : Nat), x])) { s with heap := h2, toks := tk + 1 } := by
      refine I.turnedNew (ch := [e, it]) (fun b ob hb q => ?_) hf (Nat.le_refl _) made
      have hbe : b ≠ e := fun z => hb (z ▸ List.mem_cons_self)
      have hbi : b ≠ it := fun z => hb (z ▸ List.mem_cons_of_mem _ List.mem_cons_self)
      exact (sb.2 b hbe).trans (hk b ob hbe hbi q)
    refine ⟨.ref s.heap.objs.size, _, I2, rfl, ⟨_, x, rfl, I.hok.fresh (Nat.le_refl _), rfl, fun ys hy => by rw [I.tuple_inj hy hq]; exact hx⟩,
      ⟨⟨u, ?_⟩, st'.1.at fun o q => (sb.2 it (Ne.symm hne)).trans q, hne, hai, hae⟩, fun b hb => ?_⟩
    · have e1 : ((i + 1 : Nat) : Int) = (i : Int) + 1 := by omega
      rw [e1]
      exact isE2
    · have hb' : b < s.heap.objs.size := by
        rcases List.mem_cons.mp hb with z | z
        · exact z ▸ hel
        · have z' : b = it := by simpa using z
          exact z' ▸ hil
      rw [upd_ne (Nat.ne_of_lt hb')]
      exact (hf b hb).1
  done := by
    intro X hP hw hK hc i pins s σ H E I hf st hg
    subst hP hw hK
    obtain ⟨⟨old, isE⟩, hit, hne, hai, hae⟩ := st
    obtain ⟨xs, hq, hx⟩ := hg
    obtain ⟨its, rv, ist, hz⟩ := I.tuple hq
    obtain ⟨f0, f1, f2, f3, f4, f5⟩ := hf it (List.mem_cons_of_mem _ List.mem_cons_self)
    have hl := rv.length
    have hd1 : X.A.in1.handled = none := I.ok.hd hc
    have D : Draws X.prog X.w X.A.in1 it [it, a] i (fun _ _ => True) (fun j h => j = i ∧ h.IsTupleIter it a i ∧ h.IsTuple a its.toArray) := by
      have T := Draws.tuple (prog := X.prog) (w := X.w) hd1 it a hai its.toArray
      refine ⟨fun j h z => T.live i h z.2, fun j h h' z k => ⟨z.1, T.frame i h h' z.2 k⟩, fun j s' Q E' hj st' _ => absurd (st'.1 ▸ hj) (Nat.lt_irrefl _), fun s' Q E' st' hE => ?_⟩
      exact wpAny_nextOf_tuple_end hd1 st'.2.1 st'.2.2 (by simp; omega) hE
    exact wpAny_pyNext_enum_endD D isE ⟨rfl, hit, ist⟩ fun h' eb => ⟨rfl, I.turned (t' := s.toks) (fun b o hb q => eb b o hb q) f0 f1 f3 f4 f5⟩
  self := fun A i s Q E st hq => by
    obtain ⟨⟨_, isE⟩, _⟩ := st
    exact wpAny_pyIter_enum isE hq
end W3
namespace W3
open PySem PySem.Spec PyProof.Rows L2
section
variable {X : Cx} {tg : Expr}
/-! ### for over a list or a tuple -/
def iSeq (K : PySem.W.Frag) (tl : TE) : TI := fun σ H R => tl σ H fun x H1 => ∃ a xs, x = .ref a ∧ ((SqL K H1 a xs ∧ R (Itl K a) H1) ∨ (SqT K H1 a xs ∧ R (Itt K a) H1))
theorem pi_seq {l : Expr} {tl : TE} (hl : PE X l tl) : PI X tg l (iSeq X.K tl) where
  run := by
    intro pins s σ H R I h
    refine thn (hl.run pins s σ H _ I h) ?_
    rintro v s1 ⟨x, H1, I1, r1, a, xs, rfl, q⟩
    cases r1
    have own : ∀ b ∈ [s1.heap.objs.size], FpOk X pins H1 b := by
      intro b hb
      obtain rfl : b = s1.heap.objs.size := by simpa using hb
      exact I1.fpOk (Nat.le_refl _) (I1.hok.fresh (Nat.le_refl _))
    rcases q with ⟨hq, q⟩ | ⟨hq, q⟩
    · obtain ⟨its, rv, pl, _⟩ := I1.list hq
      refine wpAny_pyIter_list pl.isList ?_
      have I2 := I1.kept (t' := s1.toks) fun b o e => Heap.get?_push_of_some { cls := .type "list_iterator", data := .fields #[.ref a, .int 0 0] } e
      exact ⟨_, _, _, _, H1, rfl, I2, turn_list a s1.heap.objs.size, ⟨_, Heap.get?_push_size _ rfl, rfl, rfl⟩, own, q⟩
    · obtain ⟨its, rv, pl, _⟩ := I1.tuple hq
      refine wpAny_pyIter_tuple (show s1.heap.IsTuple a its.toArray from pl) ?_
      have I2 := I1.kept (t' := s1.toks) fun b o e => Heap.get?_push_of_some { cls := .type "tuple_iterator", data := .fields #[.ref a, .int 0 0] } e
      exact ⟨_, _, _, _, H1, rfl, I2, turn_tuple a s1.heap.objs.size, ⟨_, Heap.get?_push_size _ rfl, rfl, rfl⟩, own, q⟩
/-- enumerate over a list or a tuple -/
def iEnA (K : PySem.W.Frag) (ta : TA) : TI := fun σ H R => ta σ H fun vs H1 => ∃ a xs, vs = [.ref a] ∧ ((SqL K H1 a xs ∧ R (Ite K a) H1) ∨ (SqT K H1 a xs ∧ R (IteT K a) H1))
theorem pi_enumA {e : Expr} {ta : TA} {p pos tpos : Pos} {elts : List Expr} {kk : Nat} (hm : X.mg "enumerate" = none) (hg : Gl X "enumerate") (ha : PA X [e] ta) (hs : starEach [e] X.env = [(false, eval e X.env)] := by rfl) :
    PI X (.Tuple elts kk tpos) (.Call (.Name "enumerate" p) [e] [] pos) (iEnA X.K ta) where
  run := by
    intro pins s σ H R I h
    refine Call_ (ld_blt I hg hm boot_enumerate (PyProof.Rows.callWith_type1 (thn (ha.run pos pins s σ H _ I h) ?_) hs rfl))
    rintro us s1 ⟨vs, H1, I1, r1, a, xs, rfl, q⟩
    obtain ⟨w', rfl, rw'⟩ := vals1 r1
    cases rw'
    have own : ∀ b ∈ [s1.heap.objs.size + 1, s1.heap.objs.size], FpOk X pins H1 b := by
      intro b hb
      have hle : s1.heap.objs.size ≤ b := by
        rcases List.mem_cons.mp hb with z | z
        · omega
        · have z' : b = s1.heap.objs.size := by simpa using z
          omega
      exact I1.fpOk hle (I1.hok.fresh hle)
    rcases q with ⟨hq, q⟩ | ⟨hq, q⟩
    · obtain ⟨its, rv, pl, _⟩ := I1.list hq
      refine call_enumerate_list pl.isList fun h' he hit hsz hk => wpAny_pyIter_enum he ?_
      exact ⟨_, _, _, _, H1, rfl, I1.kept (t' := s1.toks) hk, turn_enum a (s1.heap.objs.size + 1) s1.heap.objs.size, ⟨⟨.none, he⟩, hit, Nat.succ_ne_self _⟩, own, q⟩
    · obtain ⟨its, rv, pl, _⟩ := I1.tuple hq
      have hal : a < s1.heap.objs.size := pl.lt
      refine enum_call1 (begins_tuple a its.toArray) pl fun h' he hit hk => wpAny_pyIter_enum he ?_
      exact ⟨_, _, _, _, H1, rfl, I1.kept (t' := s1.toks) hk, turn_enumT a (s1.heap.objs.size + 1) s1.heap.objs.size, ⟨⟨.none, he⟩, ⟨_, hit, rfl, rfl⟩, Nat.succ_ne_self _, Nat.ne_of_lt hal, Nat.ne_of_lt (Nat.lt_succ_of_lt hal)⟩, own, q⟩
/-! ### over plain data -/
/-- the items of what a for walks, if they are data that stay -/
def itemsOf : U → Option (List D)
  | .fz (.lst ds) => some ds
  | .fz (.tup ds) => some ds
  | .fz (.ktup ds) => some ds
  | .fz (.slst ds) => some ds
  | _ => none
theorem items_rep {K : PySem.W.Frag} {F : Hp} {τ : List Addr} {v : V} {u : U} {ds : List D} (ru : RepU K F τ v u) (e : itemsOf u = some ds) : ∃ a vs, v = .ref a ∧ RepDs K F vs ds ∧ ((∀ F', Sub F F' → SqL K F' a vs) ∨ (∀ F', Sub F F' → SqT K F' a vs)) := by
  unfold itemsOf at e
  split at e <;> cases e
  · obtain ⟨a, vs, rfl, ha, rd⟩ := lst_of ru
    exact ⟨a, vs, rfl, rd, .inl fun F' s => sqL_of s ha⟩
  · obtain ⟨a, vs, rfl, ha, rd⟩ := tup_of ru
    exact ⟨a, vs, rfl, rd, .inr fun F' s => sqT_of s ha⟩
  · obtain ⟨a, vs, rfl, ha, rd⟩ := ktup_of ru
    exact ⟨a, vs, rfl, rd, .inr fun F' s => s.sqT ha⟩
  · obtain ⟨a, vs, rfl, ha, rd⟩ := slst_of ru
    exact ⟨a, vs, rfl, rd, .inl fun F' s => s.sqL ha⟩
theorem getFz {ds : List D} {i : Nat} {u : U} (h : (ds.map U.fz)[i]? = some u) : ∃ d, ds[i]? = some d ∧ u = .fz d := by
  rw [List.getElem?_map] at h
  cases q : ds[i]? with
  | none => rw [q] at h; cases h
  | some d => rw [q] at h; exact ⟨d, rfl, (Option.some.inj h).symm⟩
/-- for x in a list or tuple -/
def xSeq (te : XE) : XI := fun ρ μ Q => te ρ μ fun u μ1 => match itemsOf u with
  | some ds => Q (ds.map .fz) μ1
  | none => False
theorem qi_seq {l : Expr} {te : XE} (hl : QE X l te) : QI X tg l (xSeq te) := PI.mono (pi_seq hl) fun σ H R ⟨ρ, μ, F, τ, Q, r, q, k⟩ => by
  refine ⟨ρ, μ, F, τ, _, r, q, fun u v μ1 F1 τ1 H1 e1 r1 ru q1 => ?_⟩
  split at q1
  · rename_i ds hds
    obtain ⟨a, vs, rfl, rd, hs⟩ := items_rep ru hds
    refine ⟨a, vs, rfl, ?_⟩
    rcases hs with hs | hs
    · refine .inl ⟨hs _ r1.sub, k _ μ1 F1 τ1 H1 _ e1 r1 ⟨fun F2 τ2 μ2 H2 e2 r2 i u hu => ?_, fun F2 τ2 μ2 H2 e2 r2 i u hu x H3 y => ?_, fun F2 τ2 μ2 H2 e2 r2 i hi => ?_⟩ q1⟩
      · obtain ⟨d, hd, rfl⟩ := getFz hu
        obtain ⟨z, hz, _⟩ := rd.get hd
        exact ⟨vs, z, hs _ (e2.sub.trans r2.sub), hz⟩
      · obtain ⟨d, hd, rfl⟩ := getFz hu
        obtain ⟨z, hz, rz⟩ := rd.get hd
        obtain ⟨rfl, y2⟩ := y
        have ez : x = z := Option.some.inj ((y2 vs (hs _ (e2.sub.trans r2.sub))).symm.trans hz)
        subst ez
        exact ⟨F2, .refl _ _ _, r2, RepU.fz (rz.mono e2.sub)⟩
      · rw [List.length_map, ← rd.length] at hi
        exact ⟨vs, hs _ (e2.sub.trans r2.sub), hi⟩
    · refine .inr ⟨hs _ r1.sub, k _ μ1 F1 τ1 H1 _ e1 r1 ⟨fun F2 τ2 μ2 H2 e2 r2 i u hu => ?_, fun F2 τ2 μ2 H2 e2 r2 i u hu x H3 y => ?_, fun F2 τ2 μ2 H2 e2 r2 i hi => ?_⟩ q1⟩
      · obtain ⟨d, hd, rfl⟩ := getFz hu
        obtain ⟨z, hz, _⟩ := rd.get hd
        exact ⟨vs, z, hs _ (e2.sub.trans r2.sub), hz⟩
      · obtain ⟨d, hd, rfl⟩ := getFz hu
        obtain ⟨z, hz, rz⟩ := rd.get hd
        obtain ⟨rfl, y2⟩ := y
        have ez : x = z := Option.some.inj ((y2 vs (hs _ (e2.sub.trans r2.sub))).symm.trans hz)
        subst ez
        exact ⟨F2, .refl _ _ _, r2, RepU.fz (rz.mono e2.sub)⟩
      · rw [List.length_map, ← rd.length] at hi
        exact ⟨vs, hs _ (e2.sub.trans r2.sub), hi⟩
  · exact q1.elim
/-- a, a + 1, .. -/
def upto (lo : Int) (n : Nat) : List U := (List.range n).map fun (i : Nat) => U.fz (.int (lo + (i : Int)))
theorem getUpto {lo : Int} {n i : Nat} {u : U} (h : (upto lo n)[i]? = some u) : i < n ∧ u = .fz (.int (lo + (i : Int))) := by
  unfold upto at h
  rw [List.getElem?_map] at h
  by_cases c : i < n
  · rw [List.getElem?_range c] at h
    exact ⟨c, (Option.some.inj h).symm⟩
  · rw [List.getElem?_eq_none (by simpa using c)] at h
    cases h
theorem walk_ints {K : PySem.W.Frag} {lo : Int} {n : Nat} {F : Hp} {τ : List Addr} {H : Hp} : WalkX K (Itr lo n) (upto lo n) F τ H := by
  refine ⟨fun F2 τ2 μ2 H2 e2 r2 i u hu => (getUpto hu).1, fun F2 τ2 μ2 H2 e2 r2 i u hu x H3 y => ?_, fun F2 τ2 μ2 H2 e2 r2 i hi => ?_⟩
  · obtain ⟨hi, rfl⟩ := getUpto hu
    obtain ⟨rfl, rfl⟩ := y
    exact ⟨F2, .refl _ _ _, r2, RepU.fz (.int _)⟩
  · unfold upto at hi
    rw [List.length_map, List.length_range] at hi
    exact hi
def xRng1 (ta : XA) : XI := fun ρ μ Q => ta ρ μ fun us μ1 => match us with
  | [.fz (.int j)] => (-(2 ^ 62) ≤ j ∧ j < 2 ^ 62) ∧ Q (upto 0 j.toNat) μ1
  | _ => False
def xRng2 (ta : XA) : XI := fun ρ μ Q => ta ρ μ fun us μ1 => match us with
  | [.fz (.int i), .fz (.int j)] => (-(2 ^ 62) ≤ i ∧ i < 2 ^ 62 ∧ -(2 ^ 62) ≤ j ∧ j < 2 ^ 62) ∧ Q (upto i (j - i).toNat) μ1
  | _ => False
variable {a b : Expr} {ta : XA} {p pos tpos : Pos} {elts : List Expr} {kk : Nat}
theorem one_of {K : PySem.W.Frag} {F : Hp} {τ : List Addr} {vs : List V} {u : U} (h : RepUs K F τ vs [u]) : ∃ v, vs = [v] ∧ RepU K F τ v u := by
  cases h with
  | cons h r => cases r; exact ⟨_, rfl, h⟩
theorem two_of {K : PySem.W.Frag} {F : Hp} {τ : List Addr} {vs : List V} {u w : U} (h : RepUs K F τ vs [u, w]) : ∃ v x, vs = [v, x] ∧ RepU K F τ v u ∧ RepU K F τ x w := by
  cases h with
  | cons h r =>
    obtain ⟨x, rfl, h2⟩ := one_of r
    exact ⟨_, x, rfl, h, h2⟩
theorem qi_rng1 (hm : X.mg "range" = none) (ha : QA X [a] ta) (hg : Gl X "range" := by rfl) (hs : starEach [a] X.env = [(false, eval a X.env)] := by rfl) : QI X tg (.Call (.Name "range" p) [a] [] pos) (xRng1 ta) :=
  PI.mono (pi_range1 hg hm ha hs) fun σ H R ⟨ρ, μ, F, τ, Q, r, q, k⟩ => by
    refine ⟨ρ, μ, F, τ, _, r, q, fun us vs μ1 F1 τ1 H1 e1 r1 rus q1 => ?_⟩
    split at q1
    · obtain ⟨v, rfl, rv⟩ := one_of rus
      exact ⟨_, by rw [int_of rv], q1.1.1, q1.1.2, k _ μ1 F1 τ1 H1 _ e1 r1 walk_ints q1.2⟩
    · exact q1.elim
theorem qi_rng2 (hm : X.mg "range" = none) (ha : QA X [a, b] ta) (hg : Gl X "range" := by rfl) (hs : starEach [a, b] X.env = [(false, eval a X.env), (false, eval b X.env)] := by rfl) (hs2 : starEach [b] X.env = [(false, eval b X.env)] := by rfl) :
    QI X tg (.Call (.Name "range" p) [a, b] [] pos) (xRng2 ta) :=
  PI.mono (pi_range2 hg hm ha hs hs2) fun σ H R ⟨ρ, μ, F, τ, Q, r, q, k⟩ => by
    refine ⟨ρ, μ, F, τ, _, r, q, fun us vs μ1 F1 τ1 H1 e1 r1 rus q1 => ?_⟩
    split at q1
    · obtain ⟨v, w, rfl, rv, rw'⟩ := two_of rus
      exact ⟨_, _, by rw [int_of rv, int_of rw'], q1.1, k _ μ1 F1 τ1 H1 _ e1 r1 walk_ints q1.2⟩
    · exact q1.elim
/-- pairs with numbers -/
def nums (ds : List D) : List U := ds.mapIdx fun i d => .fz (.tup [.int (i : Int), d])
theorem getNums {ds : List D} {i : Nat} {u : U} (h : (nums ds)[i]? = some u) : ∃ d, ds[i]? = some d ∧ u = .fz (.tup [.int (i : Int), d]) := by
  unfold nums at h
  rw [List.getElem?_mapIdx] at h
  cases q : ds[i]? with
  | none => rw [q] at h; cases h
  | some d => rw [q] at h; exact ⟨d, rfl, (Option.some.inj h).symm⟩
def xEnum (ta : XA) : XI := fun ρ μ Q => ta ρ μ fun us μ1 => match us with
  | [u] => match itemsOf u with
    | some ds => Q (nums ds) μ1
    | none => False
  | _ => False
theorem pair_new {K : PySem.W.Frag} {F : Hp} {τ : List Addr} {μ : Mu} {H : Hp} (r : RepH K F τ μ H) {T : Addr} {x y : V} {d e : D} (hT : H T = none) (hx : RepD K F x d) (hy : RepD K F y e) :
    ∃ F3, Ext F τ H F3 τ (upd H T (.tup [x, y])) ∧ RepH K F3 τ μ (upd H T (.tup [x, y])) ∧ RepU K F3 τ (.ref T) (.fz (.tup [d, e])) := by
  have s := Sub.new (o := .tup [x, y]) (r.dom T hT)
  exact ⟨_, Ext.newF _ (r.dom T hT) hT, r.newF _ hT, RepU.fz (.tup upd_same (.cons (hx.mono s) (.cons (hy.mono s) .nil)))⟩
theorem qi_enum (hm : X.mg "enumerate" = none) (ha : QA X [a] ta) (hg : Gl X "enumerate" := by rfl) (hs : starEach [a] X.env = [(false, eval a X.env)] := by rfl) : QI X (.Tuple elts kk tpos) (.Call (.Name "enumerate" p) [a] [] pos) (xEnum ta) :=
  PI.mono (pi_enumA hm hg ha hs) fun σ H R ⟨ρ, μ, F, τ, Q, r, q, k⟩ => by
    refine ⟨ρ, μ, F, τ, _, r, q, fun us vs μ1 F1 τ1 H1 e1 r1 rus q1 => ?_⟩
    split at q1
    · obtain ⟨v, rfl, ru⟩ := one_of rus
      split at q1
      · rename_i ds hds
        obtain ⟨a, vs, rfl, rd, hs⟩ := items_rep ru hds
        refine ⟨a, vs, rfl, ?_⟩
        have len : (nums ds).length = vs.length := by unfold nums; rw [List.length_mapIdx, rd.length]
        rcases hs with hs | hs
        · refine .inl ⟨hs _ r1.sub, k _ μ1 F1 τ1 H1 _ e1 r1 ⟨fun F2 τ2 μ2 H2 e2 r2 i u hu => ?_, fun F2 τ2 μ2 H2 e2 r2 i u hu x H3 y => ?_, fun F2 τ2 μ2 H2 e2 r2 i hi => ?_⟩ q1⟩
          · obtain ⟨d, hd, rfl⟩ := getNums hu
            obtain ⟨z, hz, _⟩ := rd.get hd
            exact ⟨vs, z, hs _ (e2.sub.trans r2.sub), hz⟩
          · obtain ⟨d, hd, rfl⟩ := getNums hu
            obtain ⟨z, hz, rz⟩ := rd.get hd
            obtain ⟨T, x', rfl, hT, rfl, y2⟩ := y
            have ez : x' = z := Option.some.inj ((y2 vs (hs _ (e2.sub.trans r2.sub))).symm.trans hz)
            subst ez
            exact pair_new r2 hT (.int _) (rz.mono e2.sub)
          · exact ⟨vs, hs _ (e2.sub.trans r2.sub), by omega⟩
        · refine .inr ⟨hs _ r1.sub, k _ μ1 F1 τ1 H1 _ e1 r1 ⟨fun F2 τ2 μ2 H2 e2 r2 i u hu => ?_, fun F2 τ2 μ2 H2 e2 r2 i u hu x H3 y => ?_, fun F2 τ2 μ2 H2 e2 r2 i hi => ?_⟩ q1⟩
          · obtain ⟨d, hd, rfl⟩ := getNums hu
            obtain ⟨z, hz, _⟩ := rd.get hd
            exact ⟨vs, z, hs _ (e2.sub.trans r2.sub), hz⟩
          · obtain ⟨d, hd, rfl⟩ := getNums hu
            obtain ⟨z, hz, rz⟩ := rd.get hd
            obtain ⟨T, x', rfl, hT, rfl, y2⟩ := y
            have ez : x' = z := Option.some.inj ((y2 vs (hs _ (e2.sub.trans r2.sub))).symm.trans hz)
            subst ez
            exact pair_new r2 hT (.int _) (rz.mono e2.sub)
          · exact ⟨vs, hs _ (e2.sub.trans r2.sub), by omega⟩
      · exact q1.elim
    · exact q1.elim
/-- pairs of the items of two -/
def pairs (ds es : List D) : List U := (ds.zip es).map fun p => .fz (.tup [p.1, p.2])
theorem getPairs {ds es : List D} {i : Nat} {u : U} (h : (pairs ds es)[i]? = some u) : ∃ d e, ds[i]? = some d ∧ es[i]? = some e ∧ u = .fz (.tup [d, e]) := by
  unfold pairs at h
  rw [List.getElem?_map] at h
  cases q : (ds.zip es)[i]? with
  | none => rw [q] at h; cases h
  | some d =>
    rw [q] at h
    obtain ⟨h1, h2⟩ := List.getElem?_zip_eq_some.mp q
    exact ⟨d.1, d.2, h1, h2, (Option.some.inj h).symm⟩
def seqK : U → Option (Bool × List D)
  | .fz (.lst ds) => some (true, ds)
  | .fz (.slst ds) => some (true, ds)
  | .fz (.tup ds) => some (false, ds)
  | .fz (.ktup ds) => some (false, ds)
  | _ => none
theorem seqK_rep {K : PySem.W.Frag} {F : Hp} {τ : List Addr} {v : V} {u : U} {b : Bool} {ds : List D} (ru : RepU K F τ v u) (e : seqK u = some (b, ds)) : ∃ a vs, v = .ref a ∧ RepDs K F vs ds ∧ (match b with
    | true => ∀ F', Sub F F' → SqL K F' a vs
    | false => ∀ F', Sub F F' → SqT K F' a vs) := by
  unfold seqK at e
  split at e <;> cases e
  · obtain ⟨a, vs, rfl, ha, rd⟩ := lst_of ru
    exact ⟨a, vs, rfl, rd, fun F' s => sqL_of s ha⟩
  · obtain ⟨a, vs, rfl, ha, rd⟩ := slst_of ru
    exact ⟨a, vs, rfl, rd, fun F' s => s.sqL ha⟩
  · obtain ⟨a, vs, rfl, ha, rd⟩ := tup_of ru
    exact ⟨a, vs, rfl, rd, fun F' s => sqT_of s ha⟩
  · obtain ⟨a, vs, rfl, ha, rd⟩ := ktup_of ru
    exact ⟨a, vs, rfl, rd, fun F' s => s.sqT ha⟩
def xZip (ta : XA) : XI := fun ρ μ Q => ta ρ μ fun us μ1 => match us with
  | [u, w] => match seqK u, seqK w with
    | some (true, ds), some (true, es) => Q (pairs ds es) μ1
    | some (false, ds), some (false, es) => Q (pairs ds es) μ1
    | _, _ => False
  | _ => False
theorem pairs_len (ds es : List D) : (pairs ds es).length = min ds.length es.length := by
  unfold pairs
  rw [List.length_map, List.length_zip]
theorem qi_zip (hm : X.mg "zip" = none) (ha : QA X [a, b] ta) (hg : Gl X "zip" := by rfl) (hs : starEach [a, b] X.env = (false, eval a X.env) :: starEach [b] X.env := by rfl) (hs2 : (backTo pos (starEach [b] X.env)).any (·.1) = false := by rfl) :
    QI X (.Tuple elts kk tpos) (.Call (.Name "zip" p) [a, b] [] pos) (xZip ta) :=
  PI.mono (RZ.pi_zipA hg hm ha hs hs2) fun σ H R ⟨ρ, μ, F, τ, Q, r, q, k⟩ => by
    refine ⟨ρ, μ, F, τ, _, r, q, fun us vs μ1 F1 τ1 H1 e1 r1 rus q1 => ?_⟩
    split at q1
    · obtain ⟨v, w, rfl, ru, rw'⟩ := two_of rus
      split at q1
      · rename_i ds es h1 h2
        obtain ⟨a, vs, rfl, rd, hs⟩ := seqK_rep ru h1
        obtain ⟨b, ws, rfl, rd2, hs2⟩ := seqK_rep rw' h2
        refine ⟨a, b, vs, ws, rfl, .inl ⟨hs _ r1.sub, hs2 _ r1.sub, k _ μ1 F1 τ1 H1 _ e1 r1 ⟨fun F2 τ2 μ2 H2 e2 r2 i u hu => ?_, fun F2 τ2 μ2 H2 e2 r2 i u hu x H3 y => ?_, fun F2 τ2 μ2 H2 e2 r2 i hi => ?_⟩ q1⟩⟩
        · obtain ⟨d, e, hd, he, rfl⟩ := getPairs hu
          obtain ⟨z, hz, _⟩ := rd.get hd
          obtain ⟨z', hz', _⟩ := rd2.get he
          exact ⟨vs, ws, z, z', hs _ (e2.sub.trans r2.sub), hs2 _ (e2.sub.trans r2.sub), hz, hz'⟩
        · obtain ⟨d, e, hd, he, rfl⟩ := getPairs hu
          obtain ⟨z, hz, rz⟩ := rd.get hd
          obtain ⟨z', hz', rz'⟩ := rd2.get he
          obtain ⟨T, x1, x2, rfl, hT, rfl, y1, y2⟩ := y
          have ez : x1 = z := Option.some.inj ((y1 vs (hs _ (e2.sub.trans r2.sub))).symm.trans hz)
          have ez' : x2 = z' := Option.some.inj ((y2 ws (hs2 _ (e2.sub.trans r2.sub))).symm.trans hz')
          subst ez ez'
          exact pair_new r2 hT (rz.mono e2.sub) (rz'.mono e2.sub)
        · rw [pairs_len] at hi
          refine ⟨vs, ws, hs _ (e2.sub.trans r2.sub), hs2 _ (e2.sub.trans r2.sub), ?_⟩
          rw [rd.length, rd2.length]
          omega
      · rename_i ds es h1 h2
        obtain ⟨a, vs, rfl, rd, hs⟩ := seqK_rep ru h1
        obtain ⟨b, ws, rfl, rd2, hs2⟩ := seqK_rep rw' h2
        refine ⟨a, b, vs, ws, rfl, .inr ⟨hs _ r1.sub, hs2 _ r1.sub, k _ μ1 F1 τ1 H1 _ e1 r1 ⟨fun F2 τ2 μ2 H2 e2 r2 i u hu => ?_, fun F2 τ2 μ2 H2 e2 r2 i u hu x H3 y => ?_, fun F2 τ2 μ2 H2 e2 r2 i hi => ?_⟩ q1⟩⟩
        · obtain ⟨d, e, hd, he, rfl⟩ := getPairs hu
          obtain ⟨z, hz, _⟩ := rd.get hd
          obtain ⟨z', hz', _⟩ := rd2.get he
          exact ⟨vs, ws, z, z', hs _ (e2.sub.trans r2.sub), hs2 _ (e2.sub.trans r2.sub), hz, hz'⟩
        · obtain ⟨d, e, hd, he, rfl⟩ := getPairs hu
          obtain ⟨z, hz, rz⟩ := rd.get hd
          obtain ⟨z', hz', rz'⟩ := rd2.get he
          obtain ⟨T, x1, x2, rfl, hT, rfl, y1, y2⟩ := y
          have ez : x1 = z := Option.some.inj ((y1 vs (hs _ (e2.sub.trans r2.sub))).symm.trans hz)
          have ez' : x2 = z' := Option.some.inj ((y2 ws (hs2 _ (e2.sub.trans r2.sub))).symm.trans hz')
          subst ez ez'
          exact pair_new r2 hT (rz.mono e2.sub) (rz'.mono e2.sub)
        · rw [pairs_len] at hi
          refine ⟨vs, ws, hs _ (e2.sub.trans r2.sub), hs2 _ (e2.sub.trans r2.sub), ?_⟩
          rw [rd.length, rd2.length]
          omega
      · exact q1.elim
    · exact q1.elim
end
end W3
namespace W3
open PySem PySem.Spec PyProof.Rows L2
/-! ### own objects written -/
theorem getSet {α : Type} {l : List α} {i j : Nat} {x y : α} (h : (l.set i x)[j]? = some y) : (i = j ∧ x = y) ∨ (i ≠ j ∧ l[j]? = some y) := by
  by_cases e : i = j
  · subst e
    have hl : i < l.length := by
      have := (List.getElem?_eq_some_iff.mp h).1
      rwa [List.length_set] at this
    rw [List.getElem?_set_self hl] at h
    exact .inl ⟨rfl, Option.some.inj h⟩
  · rw [List.getElem?_set_ne e] at h
    exact .inr ⟨e, h⟩
theorem RepH.setO {K : PySem.W.Frag} {F H : Hp} {τ : List Addr} {μ : List MO} (r : RepH K F τ μ H) {n : Nat} {a : Addr} {m m' : MO} {o : HO} (ha : τ[n]? = some a) (hm : μ[n]? = some m) (hg : m ≠ .gone) (ro : RepO K F τ o m') :
    RepH K F τ (μ.set n m') (upd H a o) := by
  have ln : Live μ n := ⟨m, hm, hg⟩
  have Fa : F a = none := r.off n a ha ln
  have lv : ∀ i, Live (μ.set n m') i → Live μ i := fun i ⟨x, e, nx⟩ => by
    rcases getSet e with ⟨rfl, _⟩ | ⟨_, e⟩
    · exact ln
    · exact ⟨x, e, nx⟩
  have sub : Sub F (upd H a o) := by
    have off : ∀ b u, F b = some u → b ≠ a := fun b u e z => by rw [z, Fa] at e; cases e
    have offR : ∀ b u, Rd F b u → b ≠ a := fun b u e => by
      rcases e with e | ⟨ob, e⟩
      · exact off _ _ e
      · exact off _ _ e
    refine ⟨fun b vs e => ?_, fun b vs e => ?_, fun b vs e => Rd.upd_off (offR _ _ e) (r.sub.rl _ _ e), fun b vs e => Rd.upd_off (offR _ _ e) (r.sub.rt _ _ e), fun b vs e => Rd.upd_off (offR _ _ e) (r.sub.dK _ _ e), fun b vs e => Rd.upd_off (offR _ _ e) (r.sub.dT _ _ e), fun b φ e => by rw [upd_ne (off _ _ e)]; exact r.sub.ex _ _ e, fun b vs ⟨ob, hd, e⟩ => by
      obtain ⟨o2, h2, e2⟩ := r.sub.zt b vs ⟨ob, hd, e⟩
      exact ⟨o2, h2, by rw [upd_ne (off _ _ e)]; exact e2⟩⟩
    · rw [upd_ne (off _ _ e)]; exact r.sub.tup _ _ e
    · rw [upd_ne (off _ _ e)]; exact r.sub.lst _ _ e
  refine ⟨sub, fun b e => ?_, by rw [List.length_set]; exact r.len, fun i j b e1 e2 l1 l2 => r.inj i j b e1 e2 (lv i l1) (lv j l2), fun i b e l => r.off i b e (lv i l), fun i b e => ?_, fun i b x e1 e2 nx => ?_, fun b ps e => ?_⟩
  · by_cases q : b = a
    · subst q; rw [upd_same] at e; cases e
    · rw [upd_ne q] at e; exact r.dom b e
  · by_cases q : b = a
    · subst q; rw [upd_same]; intro z; cases z
    · rw [upd_ne q]; exact r.tr i b e
  · rcases getSet e2 with ⟨rfl, rfl⟩ | ⟨ne, e2⟩
    · have hab : a = b := Option.some.inj (ha.symm.trans e1)
      subst hab
      exact ⟨o, upd_same, ro⟩
    · have hab : b ≠ a := fun z => by
        subst z
        exact ne (r.inj n i b ha e1 ln ⟨x, e2, nx⟩)
      obtain ⟨ob, eo, ro'⟩ := r.obj i b x e1 e2 nx
      exact ⟨ob, by rw [upd_ne hab]; exact eo, ro'⟩
  · by_cases q : b = a
    · subst q; exact Fa
    · rw [upd_ne q] at e; exact r.nt b ps e
theorem RepH.nfz {K : PySem.W.Frag} {F H : Hp} {τ : List Addr} {μ : List MO} (r : RepH K F τ μ H) {n : Nat} {a : Addr} {m : MO} (ha : τ[n]? = some a) (hm : μ[n]? = some m) (hg : m ≠ .gone) : ∀ o u, H a ≠ some (.frz o u) := fun o u z => by
  obtain ⟨o1, e1, r1⟩ := r.obj n a m ha hm hg
  rw [z] at e1
  cases e1
  cases m <;> exact r1.elim
theorem Ext.setO {F H : Hp} {τ : List Addr} {n : Nat} {a : Addr} {o : HO} (ha : τ[n]? = some a) (ht : H a ≠ none) (hz : ∀ o u, H a ≠ some (.frz o u)) : Ext F τ H F τ (upd H a o) where
  sub := .refl F
  pre := ⟨[], by simp⟩
  fr := fun b u e nb _ => by
    have : b ≠ a := fun z => nb (z ▸ List.mem_of_getElem? ha)
    rw [upd_ne this]; exact e
  new := fun b z => .inl z
  nF := fun b z => .inl z
  keep := fun b z => by
    by_cases e : b = a
    · subst e; rw [upd_same] at z; cases z
    · rwa [upd_ne e] at z
  fz := fun b o u z => by
    by_cases e : b = a
    · subst e; exact absurd z (hz o u)
    · rw [upd_ne e]; exact z
theorem write {K : PySem.W.Frag} {F H : Hp} {τ : List Addr} {μ : List MO} {Q : UK} {R : VK} (r : RepH K F τ μ H) (k : Ct K F τ H Q R) {n : Nat} {a : Addr} {m m' : MO} {o : HO} {v : V} {u : U} (ha : τ[n]? = some a) (hm : μ[n]? = some m) (hg : m ≠ .gone) (ro : RepO K F τ o m') (ru : RepU K F τ v u)
    (q : Q u (μ.set n m')) : R v (upd H a o) := k u v _ F τ _ (Ext.setO ha (r.tr n a ha) (r.nfz ha hm hg)) (r.setO ha hm hg ro) ru q
theorem RepUs.append {K : PySem.W.Frag} {F : Hp} {τ : List Addr} : ∀ {vs ws : List V} {us xs : List U}, RepUs K F τ vs us → RepUs K F τ ws xs → RepUs K F τ (vs ++ ws) (us ++ xs)
  | _, _, _, _, .nil, s => s
  | _, _, _, _, .cons h r, s => .cons h (RepUs.append r s)
theorem RepUs.take {K : PySem.W.Frag} {F : Hp} {τ : List Addr} : ∀ {vs : List V} {us : List U} (n : Nat), RepUs K F τ vs us → RepUs K F τ (vs.take n) (us.take n)
  | _, _, 0, _ => .nil
  | _, _, _ + 1, .nil => .nil
  | _, _, n + 1, .cons h r => .cons h (RepUs.take n r)
theorem RepUs.drop {K : PySem.W.Frag} {F : Hp} {τ : List Addr} : ∀ {vs : List V} {us : List U} (n : Nat), RepUs K F τ vs us → RepUs K F τ (vs.drop n) (us.drop n)
  | _, _, 0, r => r
  | _, _, _ + 1, .nil => .nil
  | _, _, n + 1, .cons _ r => RepUs.drop n r
theorem RepUs.set {K : PySem.W.Frag} {F : Hp} {τ : List Addr} {v : V} {u : U} (h : RepU K F τ v u) : ∀ {vs : List V} {us : List U} (n : Nat), RepUs K F τ vs us → RepUs K F τ (vs.set n v) (us.set n u)
  | _, _, _, .nil => .nil
  | _, _, 0, .cons _ r => .cons h r
  | _, _, n + 1, .cons h' r => .cons h' (RepUs.set h n r)
theorem RepUs.dropLast {K : PySem.W.Frag} {F : Hp} {τ : List Addr} {vs : List V} {us : List U} (h : RepUs K F τ vs us) : RepUs K F τ vs.dropLast us.dropLast := by
  rw [List.dropLast_eq_take, List.dropLast_eq_take, RepUs.length h]
  exact h.take _
theorem RepUs.eraseIdx {K : PySem.W.Frag} {F : Hp} {τ : List Addr} : ∀ {vs : List V} {us : List U} (n : Nat), RepUs K F τ vs us → RepUs K F τ (vs.eraseIdx n) (us.eraseIdx n)
  | _, _, _, .nil => .nil
  | _, _, 0, .cons _ r => r
  | _, _, n + 1, .cons h r => .cons h (RepUs.eraseIdx n r)
theorem RepKU.put {κ : Type} [DecidableEq κ] {K : PySem.W.Frag} {F : Hp} {τ : List Addr} {v : V} {u : U} (h : RepU K F τ v u) (k : κ) {vs : List (κ × V)} {us : List (κ × U)} (r : RepKU K F τ vs us) : RepKU K F τ (putK vs k v) (putA us k u) := by
  have any : ∀ {vs : List (κ × V)} {us : List (κ × U)}, RepKU K F τ vs us → (vs.any fun kv => decide (kv.1 = k)) = (us.any fun kv => decide (kv.1 = k)) := by
    intro vs us r
    induction r with
    | nil => rfl
    | cons h _ ih => rw [List.any_cons, List.any_cons, ih, h.1]
  have mp : ∀ {vs : List (κ × V)} {us : List (κ × U)}, RepKU K F τ vs us → RepKU K F τ (vs.map fun kv => if kv.1 = k then (kv.1, v) else kv) (us.map fun kv => if kv.1 = k then (kv.1, u) else kv) := by
    intro vs us r
    induction r with
    | nil => exact .nil
    | @cons p q _ _ h' _ ih =>
      refine .cons ?_ ih
      obtain ⟨e1, e2⟩ := h'
      dsimp only
      by_cases c : p.1 = k
      · rw [if_pos c, if_pos (e1 ▸ c)]; exact ⟨e1, h⟩
      · rw [if_neg c, if_neg (e1 ▸ c)]; exact ⟨e1, e2⟩
  have ap : ∀ {vs : List (κ × V)} {us : List (κ × U)}, RepKU K F τ vs us → RepKU K F τ (vs ++ [(k, v)]) (us ++ [(k, u)]) := by
    intro vs us r
    induction r with
    | nil => exact .cons ⟨rfl, h⟩ .nil
    | cons h' _ ih => exact .cons h' ih
  unfold putK putA
  rw [any r]
  by_cases c : (us.any fun kv => decide (kv.1 = k)) = true
  · rw [if_pos c, if_pos c]; exact mp r
  · rw [if_neg c, if_neg c]; exact ap r
section
variable {X : Cx}
/-! ### methods of an own list -/
def liftM (K : PySem.W.Frag) (o : U → List U → Mu → UK → Prop) : V → List V → Hp → VK → Prop := fun x xs H R => ∃ F τ μ u us Q, RepH K F τ μ H ∧ RepU K F τ x u ∧ RepUs K F τ xs us ∧ o u us μ Q ∧ Ct K F τ H Q R
theorem MtR.mono {id : String} {r r' : V → List V → Hp → VK → Prop} (h : MtR X id r) (m : ∀ x xs H Q, r' x xs H Q → r x xs H Q) : MtR X id r' := fun pins s σ H x xs v us Q I rx rs q => h pins s σ H x xs v us Q I rx rs (m _ _ _ _ q)
/-- a receiver that is a list -/
def isL (μ : Mu) : U → Bool
  | .fz (.lst _) => true
  | .ptr n => match μ[n]? with
    | some (.lst _) => true
    | _ => false
  | _ => false
theorem isL_rep {K : PySem.W.Frag} {F H : Hp} {τ : List Addr} {μ : Mu} {v : V} {u : U} (rh : RepH K F τ μ H) (ru : RepU K F τ v u) (e : isL μ u = true) : tyV K "list" v H := by
  unfold isL at e
  split at e
  · obtain ⟨a, vs, rfl, ha, _⟩ := lst_of ru
    exact .inl ⟨rfl, vs, sqL_of rh.sub ha⟩
  · split at e
    · rename_i us hn
      obtain ⟨a, vs, _, rfl, ha, _⟩ := ptrL_of rh ru hn
      exact .inl ⟨rfl, vs, .inl (.inl ha)⟩
    · cases e
  · cases e
def wMeth (o : U → List U → Mu → UK → Prop) (to : XE) (t : XA) : XE := fun ρ μ Q => to ρ μ fun u μ1 => isL μ1 u = true ∧ t ρ μ1 fun us μ2 => o u us μ2 Q
def wMeth0 (o : U → List U → Mu → UK → Prop) (to : XE) : XE := fun ρ μ Q => to ρ μ fun u μ1 => isL μ1 u = true ∧ o u [] μ1 Q
variable {ob e : Expr} {es : List Expr} {to : XE} {t : XA} {name : Str} {apos cpos : Pos} {id : String} {o : U → List U → Mu → UK → Prop}
theorem qe_meth (slot : Slot "list" name id) (hty : typeOf (.builtin id) = pure (.type "method_descriptor")) (hm : MtR X id (liftM X.K o)) (ho : QE X ob to) (ha : QA X (e :: es) t)
    (hbase : attributeBase ob name X.env (eval ob X.env) = eval ob X.env := by rfl)
    (hfew : ((backTo cpos (starEach (e :: es) X.env)).all (fun x => !x.1) && (backToKw cpos (keywordEach [] X.env)).all (fun x => x.1.isSome)
      && decide ((e :: es).length + ([] : List Keyword).length + (if ([] : List Keyword).isEmpty then 0 else 1) < 30)) = true := by rfl)
    (hline : (apos.endLine == cpos.line) = true := by rfl) (hs : starEach (e :: es) X.env = (false, eval e X.env) :: starEach es X.env := by rfl) (hplain : (backTo cpos (starEach es X.env)).any (·.1) = false := by rfl) :
    QE X (.Call (.Attribute ob name apos) (e :: es) [] cpos) (wMeth o to t) :=
  PE.mono (pe_bm PySem.F.plainAttrs_list slot hty hm ho ha hbase hfew hline hs hplain) fun σ H R ⟨ρ, μ, F, τ, Q, r, q, k⟩ => by
    refine ⟨ρ, μ, F, τ, _, r, q, fun u v μ1 F1 τ1 H1 e1 r1 ru q1 => ⟨isL_rep r1 ru q1.1, ?_⟩⟩
    exact ⟨ρ, μ1, F1, τ1, _, r.at e1 r1, q1.2, fun us vs μ2 F2 τ2 H2 e2 r2 rus q2 => ⟨F2, τ2, μ2, u, us, Q, r2, ru.at e2, rus, q2, k.at (e1.trans e2)⟩⟩
theorem qe_meth0 (slot : Slot "list" name id) (hty : typeOf (.builtin id) = pure (.type "method_descriptor")) (hm : MtR X id (liftM X.K o)) (ho : QE X ob to)
    (hbase : attributeBase ob name X.env (eval ob X.env) = eval ob X.env := by rfl) (hline : (apos.endLine == cpos.line) = true := by rfl) : QE X (.Call (.Attribute ob name apos) [] [] cpos) (wMeth0 o to) :=
  PE.mono (pe_bm0 PySem.F.plainAttrs_list slot hty hm ho hbase hline) fun σ H R ⟨ρ, μ, F, τ, Q, r, q, k⟩ => by
    exact ⟨ρ, μ, F, τ, _, r, q, fun u v μ1 F1 τ1 H1 e1 r1 ru q1 => ⟨isL_rep r1 ru q1.1, F1, τ1, μ1, u, [], Q, r1, ru, .nil, q1.2, k.at e1⟩⟩
def oAppend : U → List U → Mu → UK → Prop := fun u us μ Q => match u, us with
  | .ptr n, [w] => match μ[n]? with
    | some (.lst xs) => xs.length < sizeLine ∧ Q (.fz .non) (μ.set n (.lst (xs ++ [w])))
    | _ => False
  | _, _ => False
theorem qm_append : MtR X "list.append" (liftM X.K oAppend) := MtR.mono mt_append fun x xs H R ⟨F, τ, μ, u, us, Q, rh, ru, rus, q, k⟩ => by
  unfold oAppend at q
  split at q
  · split at q
    · rename_i n w zs hn
      obtain ⟨a, vs, ea, rfl, ha, rv⟩ := ptrL_of rh ru hn
      obtain ⟨y, rfl, ry⟩ := one_of rus
      exact ⟨a, vs, y, rfl, rfl, ha, by rw [RepUs.length rv]; exact q.1, write rh k ea hn (by intro z; cases z) (show RepO X.K F τ (.lst _) (.lst _) from RepUs.append rv (.cons ry .nil)) (RepU.fz .non) q.2⟩
    · exact q.elim
  · exact q.elim
/-- the items of a list as values -/
def seqU (μ : Mu) : U → Option (List U)
  | .fz (.lst ds) => some (ds.map .fz)
  | .ptr n => match μ[n]? with
    | some (.lst us) => some us
    | _ => none
  | _ => none
theorem seqU_rep {K : PySem.W.Frag} {F H : Hp} {τ : List Addr} {μ : Mu} {v : V} {u : U} {us : List U} (rh : RepH K F τ μ H) (ru : RepU K F τ v u) (e : seqU μ u = some us) : ∃ a vs, v = .ref a ∧ H a = some (.lst vs) ∧ RepUs K F τ vs us := by
  unfold seqU at e
  split at e
  · cases e
    obtain ⟨a, vs, rfl, ha, rd⟩ := lst_of ru
    exact ⟨a, vs, rfl, rh.sub.lst _ _ ha, repUs_ofD rd⟩
  · split at e
    · rename_i us hn
      cases e
      obtain ⟨a, vs, _, rfl, ha, rus⟩ := ptrL_of rh ru hn
      exact ⟨a, vs, rfl, ha, rus⟩
    · cases e
  · cases e
def oExtend : U → List U → Mu → UK → Prop := fun u us μ Q => match u, us with
  | .ptr n, [w] => match μ[n]? with
    | some (.lst xs) => match seqU μ w with
      | some ys => xs.length + ys.length ≤ sizeLine ∧ Q (.fz .non) (μ.set n (.lst (xs ++ ys)))
      | none => False
    | _ => False
  | _, _ => False
theorem qm_extend : MtR X "list.extend" (liftM X.K oExtend) := MtR.mono mt_extend fun x xs H R ⟨F, τ, μ, u, us, Q, rh, ru, rus, q, k⟩ => by
  unfold oExtend at q
  split at q
  · split at q
    · rename_i n w zs hn
      split at q
      · rename_i ys hy
        obtain ⟨a, vs, ea, rfl, ha, rv⟩ := ptrL_of rh ru hn
        obtain ⟨y, rfl, ry⟩ := one_of rus
        obtain ⟨b, ws, rfl, hb, rw'⟩ := seqU_rep rh ry hy
        exact ⟨a, b, vs, ws, rfl, rfl, ha, hb, by rw [RepUs.length rv, RepUs.length rw']; exact q.1, write rh k ea hn (by intro z; cases z) (show RepO X.K F τ (.lst _) (.lst _) from RepUs.append rv rw') (RepU.fz .non) q.2⟩
      · exact q.elim
    · exact q.elim
  · exact q.elim
def oPop : U → List U → Mu → UK → Prop := fun u us μ Q => match u, us with
  | .ptr n, [] => match μ[n]? with
    | some (.lst xs) => ∃ y, xs[xs.length - 1]? = some y ∧ Q y (μ.set n (.lst xs.dropLast))
    | _ => False
  | _, _ => False
theorem qm_pop : MtR X "list.pop" (liftM X.K oPop) := MtR.mono mt_pop fun x xs H R ⟨F, τ, μ, u, us, Q, rh, ru, rus, q, k⟩ => by
  unfold oPop at q
  split at q
  · split at q
    · rename_i n zs hn
      obtain ⟨y, hy, q⟩ := q
      obtain ⟨a, vs, ea, rfl, ha, rv⟩ := ptrL_of rh ru hn
      cases rus
      obtain ⟨z, hz, rz⟩ := RepUs.get rv hy
      exact ⟨a, vs, z, rfl, rfl, ha, by rw [RepUs.length rv]; exact hz, write rh k ea hn (by intro z; cases z) (show RepO X.K F τ (.lst _) (.lst _) from RepUs.dropLast rv) rz q⟩
    · exact q.elim
  · exact q.elim
def oPopAt : U → List U → Mu → UK → Prop := fun u us μ Q => match u, us with
  | .ptr n, [.fz (.int i)] => match μ[n]? with
    | some (.lst xs) => (-(2 ^ 63) ≤ i ∧ i < 2 ^ 63) ∧ ∃ j y, seqIndex? i xs.length = some j ∧ xs[j]? = some y ∧ Q y (μ.set n (.lst (xs.eraseIdx j)))
    | _ => False
  | _, _ => False
theorem qm_popAt : MtR X "list.pop" (liftM X.K oPopAt) := MtR.mono mt_popAt fun x xs H R ⟨F, τ, μ, u, us, Q, rh, ru, rus, q, k⟩ => by
  unfold oPopAt at q
  split at q
  · split at q
    · rename_i n i zs hn
      obtain ⟨hb, j, y, hj, hy, q⟩ := q
      obtain ⟨a, vs, ea, rfl, ha, rv⟩ := ptrL_of rh ru hn
      obtain ⟨w, rfl, rw'⟩ := one_of rus
      obtain ⟨z, hz, rz⟩ := RepUs.get rv hy
      exact ⟨a, vs, _, j, z, rfl, by rw [int_of rw'], ha, hb.1, hb.2, by rw [RepUs.length rv]; exact hj, hz, write rh k ea hn (by intro z; cases z) (show RepO X.K F τ (.lst _) (.lst _) from RepUs.eraseIdx j rv) rz q⟩
    · exact q.elim
  · exact q.elim
def oInsert : U → List U → Mu → UK → Prop := fun u us μ Q => match u, us with
  | .ptr n, [.fz (.int i), w] => match μ[n]? with
    | some (.lst xs) => (xs.length < sizeLine ∧ 0 ≤ i ∧ i < 2 ^ 63) ∧ Q (.fz .non) (μ.set n (.lst (xs.take i.toNat ++ [w] ++ xs.drop i.toNat)))
    | _ => False
  | _, _ => False
theorem qm_insert : MtR X "list.insert" (liftM X.K oInsert) := MtR.mono mt_insert fun x xs H R ⟨F, τ, μ, u, us, Q, rh, ru, rus, q, k⟩ => by
  unfold oInsert at q
  split at q
  · split at q
    · rename_i n i w zs hn
      obtain ⟨a, vs, ea, rfl, ha, rv⟩ := ptrL_of rh ru hn
      obtain ⟨y1, y2, rfl, r1, r2⟩ := two_of rus
      exact ⟨a, vs, _, y2, rfl, by rw [int_of r1], ha, by rw [RepUs.length rv]; exact q.1.1, q.1.2.1, q.1.2.2, write rh k ea hn (by intro z; cases z) (show RepO X.K F τ (.lst _) (.lst _) from RepUs.append (RepUs.append (RepUs.take _ rv) (.cons r2 .nil)) (RepUs.drop _ rv)) (RepU.fz .non) q.2⟩
    · exact q.elim
  · exact q.elim
/-! ### stores at a place -/
theorem PSet.or {r r' : TSet} (h : PSet X r) (h' : PSet X r') : PSet X (fun o i v H Q => r o i v H Q ∨ r' o i v H Q) := fun pins s σ H o i v ov iv u Q I ro ri rv q => by
  rcases q with q | q
  · exact h pins s σ H o i v ov iv u Q I ro ri rv q
  · exact h' pins s σ H o i v ov iv u Q I ro ri rv q
theorem PSet.mono {r r' : TSet} (h : PSet X r) (m : ∀ o i v H Q, r' o i v H Q → r o i v H Q) : PSet X r' := fun pins s σ H o i v ov iv u Q I ro ri rv q => h pins s σ H o i v ov iv u Q I ro ri rv (m _ _ _ _ _ q)
def oSet (u w z : U) (μ : Mu) (Q : Mu → Prop) : Prop := match u with
  | .ptr n => match μ[n]? with
    | some (.lst xs) => match w with
      | .fz (.int i) => ∃ j, ixN xs.length i = some j ∧ Q (μ.set n (.lst (xs.set j z)))
      | _ => False
    | some (.dK kvs) => match w with
      | .fz d => ∃ k, keyD d = some k ∧ kvs.length < sizeLine ∧ Q (μ.set n (.dK (putA kvs k z)))
      | _ => False
    | some (.dT kvs) => match w with
      | .fz (.tup ds) => ∃ k, keysD ds = some k ∧ kvs.length < sizeLine ∧ Q (μ.set n (.dT (putA kvs k z)))
      | _ => False
    | _ => False
  | _ => False
def liftZ (K : PySem.W.Frag) : TSet := fun o i v H R => ∃ F τ μ u w z Q, RepH K F τ μ H ∧ RepU K F τ o u ∧ RepU K F τ i w ∧ RepU K F τ v z ∧ oSet u w z μ Q ∧ ∀ μ' F' τ' H', Ext F τ H F' τ' H' → RepH K F' τ' μ' H' → Q μ' → R H'
theorem qset (hu : X.A.units + 1 < cLine) : PSet X (liftZ X.K) := PSet.mono (PSet.or set_list (set_dict hu)) fun o i v H R ⟨F, τ, μ, u, w, z, Q, rh, ru, rw', rz, q, k⟩ => by
  have fin : ∀ {n : Nat} {a : Addr} {m m' : MO} {ob : HO}, τ[n]? = some a → μ[n]? = some m → m ≠ .gone → RepO X.K F τ ob m' → Q (μ.set n m') → R (upd H a ob) := fun ha hm hg ro q => k _ F τ _ (Ext.setO ha (rh.tr _ _ ha) (rh.nfz ha hm hg)) (rh.setO ha hm hg ro) q
  unfold oSet at q
  split at q
  · split at q
    · rename_i n xs hn
      obtain ⟨a, vs, ea, rfl, ha, rv⟩ := ptrL_of rh ru hn
      split at q
      · obtain ⟨j, hj, q⟩ := q
        exact .inl ⟨a, vs, _, j, rfl, int_of rw', ha, by rw [RepUs.length rv]; exact hj, fin ea hn (by intro z; cases z) (show RepO X.K F τ (.lst _) (.lst _) from RepUs.set rz j rv) q⟩
      · exact q.elim
    · rename_i n kvs hn
      obtain ⟨a, vs, ea, rfl, ha, rv⟩ := ptrK_of rh ru hn
      split at q
      · obtain ⟨kk, hk, hl, q⟩ := q
        have e := keyD_rep rw' hk
        subst e
        exact .inr ⟨a, _, rfl, .inl ⟨vs, kk, ha, rfl, by rw [RepKU.length rv]; exact hl, rfl⟩, fin ea hn (by intro z; cases z) (show RepO X.K F τ (.dK _) (.dK _) from RepKU.put rz kk rv) q⟩
      · exact q.elim
    · rename_i n kvs hn
      obtain ⟨a, vs, ea, rfl, ha, rv⟩ := ptrT_of rh ru hn
      split at q
      · obtain ⟨kk, hk, hl, q⟩ := q
        obtain ⟨b, ws, rfl, hb, db⟩ := tup_of rw'
        have e := keysD_rep db hk
        subst e
        exact .inr ⟨a, _, rfl, .inr ⟨vs, kk, b, ha, rfl, rh.sub.tup _ _ hb, by rw [RepKU.length rv]; exact hl, rfl⟩, fin ea hn (by intro z; cases z) (show RepO X.K F τ (.dT _) (.dT _) from RepKU.put rz kk rv) q⟩
      · exact q.elim
    · exact q.elim
  · exact q.elim
def gSubX (to ti : XE) : XG := fun z ρ μ Q => to ρ μ fun u μ1 => ti ρ μ1 fun w μ2 => oSet u w z μ2 fun μ3 => Q ρ μ3
theorem qg_sub {i : Expr} {ti : XE} {pos : Pos} (hu : X.A.units + 1 < cLine) (ho : QE X ob to) (hi : QE X i ti)
    (ha : ∀ v, assign (.Subscript ob i pos) X.env v = (do
      let ov ← holding [v] (eval ob X.env)
      let iv ← holding [v, ov] (eval i X.env)
      standAt pos
      holding [v, ov, iv] (setItem ov iv v)
      release [v, ov, iv] []) := by intro _; rfl) : QG X (.Subscript ob i pos) (gSubX to ti) :=
  PG.mono (pg_sub ho hi (qset hu) ha) fun v σ H R ⟨z, ρ, μ, F, τ, Q, r, rz, q, k⟩ => by
    refine ⟨ρ, μ, F, τ, _, r, q, fun u x μ1 F1 τ1 H1 e1 r1 ru q1 => ?_⟩
    refine ⟨ρ, μ1, F1, τ1, _, r.at e1 r1, q1, fun w y μ2 F2 τ2 H2 e2 r2 rw' q2 => ?_⟩
    refine ⟨F2, τ2, μ2, u, w, z, _, r2, ru.at e2, rw', (rz.at e1).at e2, q2, fun μ3 F3 τ3 H3 e3 r3 q3 => ?_⟩
    have R3 := (r.at (e1.trans (e2.trans e3)) r3)
    exact k ρ σ μ3 F3 τ3 H3 (e1.trans (e2.trans e3)) R3.h R3.s R3.l q3
/-- name op= e -/
def wAug (i : Nat) (op : X2) (te : XE) : XS := fun E ρ μ => match ρ[i]? with
  | some (some u) => te ρ μ fun w μ1 => op u w μ1 fun z μ2 => E.nx (ρ.set i (some z)) μ2
  | _ => False
def oAddI : X2 := fun u w μ Q => match u, w with
  | .fz (.int i), .fz (.int j) => Q (.fz (.int (i + j))) μ
  | _, _ => False
def oSubI : X2 := fun u w μ Q => match u, w with
  | .fz (.int i), .fz (.int j) => Q (.fz (.int (i - j))) μ
  | _, _ => False
theorem PIp.mono {op : Operator} {r r' : TIp} (h : PIp X op r) (m : ∀ x y H Q, r' x y H Q → r x y H Q) : PIp X op r' := fun pins s σ H x y v u Q I rx ry q => h pins s σ H x y v u Q I rx ry (m _ _ _ _ q)
theorem qip_add : PIp X .Add (liftO X.K oAddI) := PIp.mono ip_add fun x y H R ⟨F, τ, μ, u, w, Q, rh, ru, rw', q, k⟩ => by
  unfold oAddI at q
  split at q
  · exact ⟨_, _, int_of ru, int_of rw', k.ret rh (RepU.fz (.int _)) q⟩
  · exact q.elim
theorem qip_sub : PIp X .Sub (liftO X.K oSubI) := PIp.mono ip_sub fun x y H R ⟨F, τ, μ, u, w, Q, rh, ru, rw', q, k⟩ => by
  unfold oSubI at q
  split at q
  · exact ⟨_, _, int_of ru, int_of rw', k.ret rh (RepU.fz (.int _)) q⟩
  · exact q.elim
theorem qs_aug {i : Nat} {x : Str} {te : XE} {op : Operator} {o : X2} {pos' pos : Pos} (hN : X.N.Nodup) (hi : X.N[i]? = some x) (hx : Loc X.env.scope x) (he : QE X e te) (ho : PIp X op (liftO X.K o)) (hf : X.fn x = true ∨ X.env.scope.names.lookup x = some .local := by first | exact .inl rfl | exact .inr rfl | assumption) :
    QS X (.AugAssign (.Name x pos') op e pos) (wAug i o te) := PS.mono (ps_aug hN hi hx he ho hf) fun D σ H ⟨ρ, μ, F, τ, E, r, q, k⟩ => by
  unfold wAug at q
  split at q
  · rename_i u hu
    obtain ⟨v, ev, rv⟩ := r.s _ _ hu
    refine ⟨v, ev, ρ, μ, F, τ, _, r, q, fun w y μ1 F1 τ1 H1 e1 r1 rw' q1 => ?_⟩
    refine ⟨F1, τ1, μ1, u, w, _, r1, rv.at e1, rw', q1, fun z x2 μ2 F2 τ2 H2 e2 r2 rz q2 => ?_⟩
    exact ((r.at (e1.trans e2) r2).set rz).nx (k.at (e1.trans e2)) q2
  · exact q.elim
/-! ### a value's truth -/
def tru (μ : Mu) : U → Option Bool
  | .fz .non => some false
  | .fz (.bl b) => some b
  | .fz (.int i) => some (i != 0)
  | .fz (.lst ds) => some (!ds.isEmpty)
  | .fz (.tup ds) => some (!ds.isEmpty)
  | .ptr n => match μ[n]? with
    | some (.lst us) => some (!us.isEmpty)
    | some (.dK us) => some (!us.isEmpty)
    | _ => none
  | _ => none
theorem isEmptyDs {K : PySem.W.Frag} {F : Hp} {vs : List V} {ds : List D} (r : RepDs K F vs ds) : (!ds.isEmpty) = !vs.isEmpty := by cases r <;> rfl
theorem isEmptyP {α β : Type} {R : α → β → Prop} {vs : List α} {ds : List β} (r : Paired R vs ds) : (!ds.isEmpty) = !vs.isEmpty := by cases r <;> rfl
theorem tru_rep {K : PySem.W.Frag} {F H : Hp} {τ : List Addr} {μ : Mu} {v : V} {u : U} {b : Bool} (rh : RepH K F τ μ H) (ru : RepU K F τ v u) (e : tru μ u = some b) : TruV K v H b := by
  unfold tru at e
  split at e
  · cases e; cases ru; rfl
  · cases e; cases ru; rfl
  · cases e; cases ru; rfl
  · cases e
    obtain ⟨a, vs, rfl, ha, rd⟩ := lst_of ru
    exact .inl ⟨vs, sqL_of rh.sub ha, isEmptyDs rd⟩
  · cases e
    obtain ⟨a, vs, rfl, ha, rd⟩ := tup_of ru
    exact .inr (.inl ⟨vs, sqT_of rh.sub ha, isEmptyDs rd⟩)
  · split at e
    · rename_i us hn
      cases e
      obtain ⟨a, vs, _, rfl, ha, rv⟩ := ptrL_of rh ru hn
      exact .inl ⟨vs, .inl (.inl ha), isEmptyP rv⟩
    · rename_i us hn
      cases e
      obtain ⟨a, vs, _, rfl, ha, rv⟩ := ptrK_of rh ru hn
      exact .inr (.inr ⟨vs, ha, isEmptyP rv⟩)
    · cases e
  · cases e
def wTru (te : XE) : XT := fun ρ μ Q => te ρ μ fun u μ1 => match tru μ1 u with
  | some b => Q b μ1
  | none => False
theorem qt_tru {te : XE} (ha : QE X e te) (he : ∀ whole, isTrue e X.env whole = (do let v ← whole; standAt e.pos; holding [v] (truthy v)) := by intro _; rfl) : QT X e (wTru te) :=
  PT.mono (pt_truth ha he) fun σ H R ⟨ρ, μ, F, τ, Q, r, q, k⟩ => by
    refine ⟨ρ, μ, F, τ, _, r, q, fun u v μ1 F1 τ1 H1 e1 r1 ru q1 => ?_⟩
    split at q1
    · rename_i b hb
      exact ⟨b, tru_rep r1 ru hb, k b μ1 F1 τ1 H1 e1 r1 q1⟩
    · exact q1.elim
end
end W3
namespace W3
open PySem PySem.Spec PyProof.Rows L2
/-! ### slots forgotten -/
def wipeR (ρ : Rho) : List Nat → Rho
  | [] => ρ
  | v :: vs => (wipeR ρ vs).set v none
theorem wipeR_length (ρ : Rho) : ∀ vs, (wipeR ρ vs).length = ρ.length
  | [] => rfl
  | v :: vs => by unfold wipeR; rw [List.length_set, wipeR_length ρ vs]
theorem wipeR_some {ρ : Rho} {i : Nat} {u : U} : ∀ {vs : List Nat}, (wipeR ρ vs)[i]? = some (some u) → ρ[i]? = some (some u) ∧ i ∉ vs
  | [], h => ⟨h, by simp⟩
  | v :: vs, h => by
    unfold wipeR at h
    rcases getSet h with ⟨_, e⟩ | ⟨ne, h⟩
    · cases e
    · obtain ⟨h1, h2⟩ := wipeR_some h
      exact ⟨h1, by simp only [List.mem_cons, not_or]; exact ⟨fun e => ne e.symm, h2⟩⟩
theorem wipe_off {σ : Sl} {i : Nat} : ∀ {vs : List Nat}, i ∉ vs → (wipe σ vs)[i]? = σ[i]?
  | [], _ => rfl
  | v :: vs, h => by
    simp only [List.mem_cons, not_or] at h
    unfold wipe
    rw [List.getElem?_set_ne (fun e => h.1 e.symm)]
    exact wipe_off h.2
theorem RepS.wipe {K : PySem.W.Frag} {F : Hp} {τ : List Addr} {ρ : Rho} {σ : Sl} (r : RepS K F τ ρ σ) (vs : List Nat) : RepS K F τ (wipeR ρ vs) (wipe σ vs) := fun i u e => by
  obtain ⟨h1, h2⟩ := wipeR_some e
  obtain ⟨v, e1, r1⟩ := r i u h1
  exact ⟨v, by rw [wipe_off h2]; exact e1, r1⟩
theorem wipe_set {σ : Sl} {i : Nat} {x : Option V} : ∀ {vs : List Nat}, i ∈ vs → wipe (σ.set i x) vs = wipe σ vs
  | v :: vs, h => by
    unfold wipe
    by_cases e : i ∈ vs
    · rw [wipe_set e]
    · have hv : i = v := by
        rcases List.mem_cons.mp h with z | z
        · exact z
        · exact absurd z e
      subst hv
      have cm : ∀ (ws : List Nat), i ∉ ws → wipe (σ.set i x) ws = (wipe σ ws).set i x := by
        intro ws
        induction ws with
        | nil => intro _; rfl
        | cons w ws ih =>
          intro hw
          simp only [List.mem_cons, not_or] at hw
          unfold wipe
          rw [ih hw.2, List.set_comm _ _ hw.1]
      rw [cm vs e, List.set_set]
theorem wipe_wipe {σ : Sl} (vs : List Nat) : wipe (wipe σ vs) vs = wipe σ vs := by
  apply List.ext_getElem?
  intro i
  by_cases h : i ∈ vs
  · have non : ∀ (τ : Sl) (ws : List Nat), i ∈ ws → (wipe τ ws)[i]? = (τ[i]?).map fun _ => none := by
      intro τ ws
      induction ws with
      | nil => intro z; cases z
      | cons w ws ih =>
        intro z
        unfold wipe
        by_cases e : w = i
        · subst e
          by_cases hl : w < τ.length
          · rw [List.getElem?_set_self (by rw [wipe_length]; exact hl), List.getElem?_eq_getElem hl]; rfl
          · rw [List.getElem?_eq_none (by rw [List.length_set, wipe_length]; omega), List.getElem?_eq_none (by omega)]; rfl
        · rw [List.getElem?_set_ne e]
          rcases List.mem_cons.mp z with q | q
          · exact absurd q.symm e
          · exact ih q
    rw [non _ _ h, non _ _ h]
    cases σ[i]? <;> rfl
  · rw [wipe_off h]
section
variable {X : Cx}
/-! ### targets of a comprehension: they store its own names alone -/
def liftGw (K : PySem.W.Frag) (vs : List Nat) (t : XG) : TG := fun v σ H R => ∃ u ρ μ F τ Q, Rep K F τ ρ μ σ H ∧ RepU K F τ v u ∧ t u ρ μ Q ∧
  ∀ ρ' σ' μ' F' τ' H', Ext F τ H F' τ' H' → Rep K F' τ' ρ' μ' σ' H' → wipe σ' vs = wipe σ vs → Q ρ' μ' → R σ' H'
def liftGsw (K : PySem.W.Frag) (vs : List Nat) (t : XGs) : TGs := fun v σ H R => ∃ u ρ μ F τ Q, Rep K F τ ρ μ σ H ∧ RepUs K F τ v u ∧ t u ρ μ Q ∧
  ∀ ρ' σ' μ' F' τ' H', Ext F τ H F' τ' H' → Rep K F' τ' ρ' μ' σ' H' → wipe σ' vs = wipe σ vs → Q ρ' μ' → R σ' H'
abbrev QGw (X : Cx) (vs : List Nat) (tg : Expr) (t : XG) : Prop := PG X tg (liftGw X.K vs t)
abbrev QGsw (X : Cx) (vs : List Nat) (tg : List Expr) (t : XGs) : Prop := PGs X tg (liftGsw X.K vs t)
theorem qgw_name {i : Nat} {tg : Expr} {vs : List Nat} (h : PG X tg (gName i)) (hi : i ∈ vs) : QGw X vs tg (gSet i) := PG.mono h fun v σ H R ⟨u, ρ, μ, F, τ, Q, r, ru, q, c⟩ =>
  c _ _ μ F τ H (.refl _ _ _) (r.set ru) (wipe_set hi) q
theorem qgsw_nil {vs : List Nat} : QGsw X vs [] gNilX := PGs.mono pgs_nil fun ws σ H R ⟨us, ρ, μ, F, τ, Q, r, ru, q, c⟩ => by
  cases ru with
  | nil => exact ⟨rfl, c ρ σ μ F τ H (.refl _ _ _) r rfl q⟩
  | cons _ _ => exact q.elim
theorem qgsw_cons {e : Expr} {es : List Expr} {t : XG} {w : XGs} {vs : List Nat} (h1 : QGw X vs e t) (h2 : QGsw X vs es w)
    (hs : (assignEach (e :: es) X.env).map (·.2) = assign e X.env :: (assignEach es X.env).map (·.2) := by rfl) : QGsw X vs (e :: es) (gConsX t w) := PGs.mono (pgs_cons h1 h2 hs) fun ws σ H R ⟨us, ρ, μ, F, τ, Q, r, ru, q, c⟩ => by
  cases ru with
  | nil => exact q.elim
  | cons h hr =>
    refine ⟨_, _, rfl, _, ρ, μ, F, τ, _, r, h, q, fun ρ' σ' μ' F' τ' H' x r' w' q' => ?_⟩
    exact ⟨_, ρ', μ', F', τ', Q, r', RepUs.at hr x, q', fun ρ2 σ2 μ2 F2 τ2 H2 x2 r2 w2 q2 => c ρ2 σ2 μ2 F2 τ2 H2 (x.trans x2) r2 (w2.trans w') q2⟩
theorem qgw_tup {es : List Expr} {k : Nat} {t : XGs} {n : Nat} {pos : Pos} {vs : List Nat} (hc : X.calm = true) (h : QGsw X vs es t) (hn : (assignEach es X.env).length = n := by rfl) (hst : (assignEach es X.env).findIdx? (·.1) = none := by rfl) : QGw X vs (.Tuple es k pos) (gTupX n t) :=
  PG.mono (pg_tup hc h hn hst) fun v σ H R ⟨u, ρ, μ, F, τ, Q, r, ru, q, c⟩ => by
    unfold gTupX at q
    split at q
    · obtain ⟨a, vs, rfl, ha, hd⟩ := tup_of ru
      exact ⟨a, vs, rfl, sqT_of r.h.sub ha, by rw [hd.length]; exact q.1, _, ρ, μ, F, τ, Q, r, repUs_ofD hd, q.2, c⟩
    · exact q.elim
/-! ### tests of a comprehension -/
abbrev QTs (X : Cx) (ifs : List Expr) (t : XT) : Prop := PTs X ifs (liftT X.K t)
theorem PTs.mono {ifs : List Expr} {t t' : TT} (h : PTs X ifs t) (m : ∀ σ H Q, t' σ H Q → t σ H Q) : PTs X ifs t' := ⟨fun pins s σ H Q I q => h.run pins s σ H Q I (m _ _ _ q)⟩
def wYes : XT := fun _ μ Q => Q true μ
theorem qts_nil : QTs X [] wYes := PTs.mono pts_nil fun σ H R ⟨ρ, μ, F, τ, Q, r, q, k⟩ => k true μ F τ H (.refl _ _ _) r.h q
theorem qts_one {c : Expr} {t : XT} (h : QT X c t) : QTs X [c] t := pts_one h
/-! ### list comprehensions -/
/-- the turns of a comprehension over known items -/
def compX (g : XG) (tt : XT) (te : XE) (ρ : Rho) : List U → List D → Mu → (List D → Mu → Prop) → Prop
  | [], acc, μ, K => K acc μ
  | x :: r, acc, μ, K => g x ρ μ fun ρ2 μ1 => tt ρ2 μ1 fun b μ2 => match b with
    | true => te ρ2 μ2 fun u μ3 => match u with
      | .fz d => compX g tt te ρ r (acc ++ [d]) μ3 K
      | .ptr _ => False
    | false => compX g tt te ρ r acc μ2 K
def wLc (own : Bool) (ti : XI) (g : XG) (tt : XT) (te : XE) (vs : List Nat) : XE := fun ρ μ Q => ti ρ μ fun items μ1 => items.length ≤ sizeLine ∧ compX g tt te (wipeR ρ vs) items [] μ1 fun ds μ2 => mkD own ds μ2 Q
/-- the state within the turns: the new list at D is neither read nor own -/
structure InC (K : PySem.W.Frag) (F1 : Hp) (τ1 : List Addr) (H1 : Hp) (D : Addr) (ob : HO) (F : Hp) (τ : List Addr) (μ : Mu) (H : Hp) : Prop where
  ext : Ext F1 τ1 H1 F τ H
  rep : RepH K F τ μ H
  nF : F D = none
  nT : D ∉ τ
  at_ : H D = some ob
  nt : (∀ vs, ob ≠ .tup vs) ∧ (∀ ps, ob ≠ .tbl ps) ∧ ∀ φ, ob ≠ .ext φ
theorem InC.start {K : PySem.W.Frag} {F1 H1 : Hp} {τ1 : List Addr} {μ : Mu} {D : Addr} {ob : HO} (r : RepH K F1 τ1 μ H1) (h : H1 D = none) (nt : (∀ vs, ob ≠ .tup vs) ∧ (∀ ps, ob ≠ .tbl ps) ∧ ∀ φ, ob ≠ .ext φ := by refine ⟨?_, ?_, ?_⟩ <;> (intro _ z; cases z)) : InC K F1 τ1 H1 D ob F1 τ1 μ (upd H1 D ob) := by
  have nT : D ∉ τ1 := fun z => by
    obtain ⟨i, hi⟩ := List.getElem?_of_mem z
    exact r.tr i D hi h
  have hF := r.dom D h
  refine ⟨⟨.refl _, ⟨[], by simp⟩, fun b u e _ _ => ?_, fun b z => .inl z, fun b z => .inl z, fun b z => ?_, fun b o u z => by rw [upd_ne (ne_of_none z h)]; exact z⟩, ⟨r.sub.to_upd h, fun a e => ?_, r.len, r.inj, r.off, fun i a e => ?_, fun i a m e1 e2 n => ?_, fun a ps e => ?_⟩, hF, nT, upd_same, nt⟩
  · rw [upd_ne (ne_of_none e h)]; exact e
  · by_cases e : b = D
    · subst e; rw [upd_same] at z; cases z
    · rwa [upd_ne e] at z
  · by_cases q : a = D
    · subst q; rw [upd_same] at e; cases e
    · rw [upd_ne q] at e; exact r.dom a e
  · have : a ≠ D := fun z => nT (z ▸ List.mem_of_getElem? e)
    rw [upd_ne this]; exact r.tr i a e
  · obtain ⟨o, eo, ro⟩ := r.obj i a m e1 e2 n
    exact ⟨o, by rw [upd_ne (ne_of_none eo h)]; exact eo, ro⟩
  · by_cases q : a = D
    · subst q; exact hF
    · rw [upd_ne q] at e; exact r.nt a ps e
theorem InC.go {K : PySem.W.Frag} {F1 H1 F F2 H H2 : Hp} {τ1 τ τ2 : List Addr} {μ μ2 : Mu} {D : Addr} {ob : HO} (c : InC K F1 τ1 H1 D ob F τ μ H) (e : Ext F τ H F2 τ2 H2) (r : RepH K F2 τ2 μ2 H2) : InC K F1 τ1 H1 D ob F2 τ2 μ2 H2 := by
  refine ⟨c.ext.trans e, r, ?_, fun z => ?_, e.fr D _ c.at_ c.nT (.inl c.nF), c.nt⟩
  · cases q : F2 D with
    | none => rfl
    | some u =>
      rcases e.nF D (by rw [q]; intro z; cases z) with z | z | z | ⟨vs, z⟩
      · exact absurd c.nF z
      · exact absurd z c.nT
      · rw [c.at_] at z; cases z
      · exact absurd (Option.some.inj (c.at_.symm.trans z)) (c.nt.1 vs)
  · rcases e.new D z with z | z
    · exact c.nT z
    · rw [c.at_] at z; cases z
theorem InC.put {K : PySem.W.Frag} {F1 H1 F H : Hp} {τ1 τ : List Addr} {μ : Mu} {D : Addr} {ob ob' : HO} (c : InC K F1 τ1 H1 D ob F τ μ H) (hD : H1 D = none) (nt' : (∀ vs, ob' ≠ .tup vs) ∧ (∀ ps, ob' ≠ .tbl ps) ∧ ∀ φ, ob' ≠ .ext φ := by refine ⟨?_, ?_, ?_⟩ <;> (intro _ z; cases z)) : InC K F1 τ1 H1 D ob' F τ μ (upd H D ob') := by
  have off : ∀ b u, F b = some u → b ≠ D := fun b u e z => by rw [z, c.nF] at e; cases e
  have offR : ∀ b u, Rd F b u → b ≠ D := fun b u e => by
    rcases e with e | ⟨ob, e⟩
    · exact off _ _ e
    · exact off _ _ e
  have r := c.rep
  have nt : ∀ (i : Nat) (a : Addr), τ[i]? = some a → a ≠ D := fun i a e z => c.nT (z ▸ List.mem_of_getElem? e)
  refine ⟨⟨c.ext.sub, c.ext.pre, fun b u e n hq => ?_, c.ext.new, c.ext.nF, fun b z => ?_, fun b o u z => by rw [upd_ne (ne_of_none z hD)]; exact c.ext.fz b o u z⟩, ⟨⟨fun b vs e => ?_, fun b vs e => ?_, fun b vs e => Rd.upd_off (offR _ _ e) (r.sub.rl _ _ e), fun b vs e => Rd.upd_off (offR _ _ e) (r.sub.rt _ _ e), fun b vs e => Rd.upd_off (offR _ _ e) (r.sub.dK _ _ e), fun b vs e => Rd.upd_off (offR _ _ e) (r.sub.dT _ _ e), fun b φ e => by rw [upd_ne (off _ _ e)]; exact r.sub.ex _ _ e, fun b vs ⟨ob, hd, e⟩ => by
      obtain ⟨o2, h2, e2⟩ := r.sub.zt b vs ⟨ob, hd, e⟩
      exact ⟨o2, h2, by rw [upd_ne (off _ _ e)]; exact e2⟩⟩,
    fun a e => ?_, r.len, r.inj, r.off, fun i a e => ?_, fun i a m e1 e2 n => ?_, fun a ps e => ?_⟩, c.nF, c.nT, upd_same, nt'⟩
  · rw [upd_ne (ne_of_none e hD)]; exact c.ext.fr b u e n hq
  · by_cases e : b = D
    · subst e; exact hD
    · rw [upd_ne e] at z; exact c.ext.keep b z
  · rw [upd_ne (off _ _ e)]; exact r.sub.tup _ _ e
  · rw [upd_ne (off _ _ e)]; exact r.sub.lst _ _ e
  · by_cases q : a = D
    · subst q; rw [upd_same] at e; cases e
    · rw [upd_ne q] at e; exact r.dom a e
  · rw [upd_ne (nt i a e)]; exact r.tr i a e
  · obtain ⟨o, eo, ro⟩ := r.obj i a m e1 e2 n
    exact ⟨o, by rw [upd_ne (nt i a e1)]; exact eo, ro⟩
  · by_cases q : a = D
    · subst q; exact c.nF
    · rw [upd_ne q] at e; exact r.nt a ps e
/-- the turns are over: the new object is read alone from now on -/
theorem InC.finF {K : PySem.W.Frag} {F1 H1 F H : Hp} {τ1 τ : List Addr} {μ : Mu} {D : Addr} {ob : HO} {d : W3.D} {Q : UK} {R : VK} (c : InC K F1 τ1 H1 D ob F τ μ H) (hD : H1 D = none) (rd : RepD K (upd F D ob) (.ref D) d) (k : Ct K F1 τ1 H1 Q R) (q : Q (.fz d) μ) : R (.ref D) H := by
  have r := c.rep
  have s := Sub.new (o := ob) c.nF
  have sub : Sub (upd F D ob) H := by
    have e : upd H D ob = H := by
      funext b
      by_cases q : b = D
      · rw [q, upd_same, c.at_]
      · rw [upd_ne q]
    have z := Sub.both (p := D) (o := ob) r.sub
    rw [e] at z
    exact z
  refine k (.fz d) (.ref D) μ (upd F D ob) τ H ⟨c.ext.sub.trans s, c.ext.pre, c.ext.fr, c.ext.new, fun b z => ?_, c.ext.keep, c.ext.fz⟩ ⟨sub, fun a e => ?_, r.len, r.inj, fun i a e l => ?_, r.tr, fun i a m e1 e2 n => ?_, fun a ps e => ?_⟩ (RepU.fz rd) q
  · by_cases q : b = D
    · exact .inr (.inr (.inl (q ▸ hD)))
    · rw [upd_ne q] at z; exact c.ext.nF b z
  · by_cases q : a = D
    · rw [q, c.at_] at e; cases e
    · rw [upd_ne q]; exact r.dom a e
  · have : a ≠ D := fun z => c.nT (z ▸ List.mem_of_getElem? e)
    rw [upd_ne this]; exact r.off i a e l
  · obtain ⟨o, eo, ro⟩ := r.obj i a m e1 e2 n
    exact ⟨o, eo, ro.mono s ⟨[], by simp⟩⟩
  · by_cases q : a = D
    · rw [q, c.at_] at e; exact absurd (Option.some.inj e) (c.nt.2.1 ps)
    · rw [upd_ne q]; exact r.nt a ps e
/-- .. or an own object -/
theorem InC.finO {K : PySem.W.Frag} {F1 H1 F H : Hp} {τ1 τ : List Addr} {μ : Mu} {D : Addr} {ob : HO} {mo : MO} {Q : UK} {R : VK} (c : InC K F1 τ1 H1 D ob F τ μ H) (hD : H1 D = none) (ro : RepO K F τ ob mo) (k : Ct K F1 τ1 H1 Q R) (q : Q (.ptr μ.length) (μ ++ [mo])) : R (.ref D) H := by
  have r := c.rep
  have pre : ∃ t, τ ++ [D] = τ ++ t := ⟨[D], rfl⟩
  have at_ : ∀ (i : Nat) (a : Addr), (τ ++ [D])[i]? = some a → (i < μ.length ∧ τ[i]? = some a) ∨ (i = μ.length ∧ a = D) := fun i a e => by
    by_cases hi : i < τ.length
    · rw [List.getElem?_append_left hi] at e
      exact .inl ⟨by rw [← r.len]; exact hi, e⟩
    · rw [List.getElem?_append_right (by omega)] at e
      have := (List.getElem?_eq_some_iff.mp e).1
      rw [List.length_singleton] at this
      have hz : i - τ.length = 0 := by omega
      rw [hz] at e
      exact .inr ⟨by rw [← r.len]; omega, (Option.some.inj e).symm⟩
  refine k (.ptr μ.length) (.ref D) (μ ++ [mo]) F (τ ++ [D]) H ⟨c.ext.sub, ?_, c.ext.fr, fun b z => ?_, c.ext.nF, c.ext.keep, c.ext.fz⟩ ⟨r.sub, r.dom, by rw [List.length_append, List.length_append, r.len]; rfl, fun i j a e1 e2 l1 l2 => ?_, fun i a e l => ?_, fun i a e => ?_, fun i a m e em n => ?_, r.nt⟩ ⟨D, ?_, rfl⟩ q
  · obtain ⟨t, rfl⟩ := c.ext.pre
    exact ⟨t ++ [D], by rw [List.append_assoc]⟩
  · rcases List.mem_append.mp z with z | z
    · exact c.ext.new b z
    · have e : b = D := by simpa using z
      exact .inr (e ▸ hD)
  · rcases at_ i a e1 with ⟨h1, q1⟩ | ⟨h1, q1⟩
    · rcases at_ j a e2 with ⟨h2, q2⟩ | ⟨h2, q2⟩
      · rcases live_snoc l1 with ⟨_, l1⟩ | l1
        · rcases live_snoc l2 with ⟨_, l2⟩ | l2
          · exact r.inj i j a q1 q2 l1 l2
          · omega
        · omega
      · exact absurd (q2 ▸ List.mem_of_getElem? q1) c.nT
    · rcases at_ j a e2 with ⟨h2, q2⟩ | ⟨h2, q2⟩
      · exact absurd (q1 ▸ List.mem_of_getElem? q2) c.nT
      · omega
  · rcases at_ i a e with ⟨h1, q1⟩ | ⟨h1, q1⟩
    · rcases live_snoc l with ⟨_, l⟩ | l
      · exact r.off i a q1 l
      · omega
    · rw [q1]; exact c.nF
  · rcases at_ i a e with ⟨h1, q1⟩ | ⟨h1, q1⟩
    · exact r.tr i a q1
    · rw [q1, c.at_]; intro z; cases z
  · rcases at_ i a e with ⟨h1, q1⟩ | ⟨h1, q1⟩
    · rw [List.getElem?_append_left h1] at em
      obtain ⟨o, eo, ro'⟩ := r.obj i a m q1 em n
      exact ⟨o, eo, ro'.mono (.refl F) pre⟩
    · subst h1 q1
      rw [List.getElem?_append_right (Nat.le_refl _), Nat.sub_self] at em
      have em' : mo = m := Option.some.inj em
      subst em'
      exact ⟨_, c.at_, ro.mono (.refl F) pre⟩
  · rw [← r.len, List.getElem?_append_right (Nat.le_refl _), Nat.sub_self]; rfl
theorem InC.fin {K : PySem.W.Frag} {F1 H1 F H : Hp} {τ1 τ : List Addr} {μ : Mu} {D : Addr} {vsacc : List V} {ds : List W3.D} {own : Bool} {Q : UK} {R : VK} (c : InC K F1 τ1 H1 D (.lst vsacc) F τ μ H) (hD : H1 D = none) (rd : RepDs K F vsacc ds) (k : Ct K F1 τ1 H1 Q R) (q : mkD own ds μ Q) : R (.ref D) H := by
  cases own with
  | false => exact c.finF hD (.lst upd_same (rd.mono (Sub.new c.nF))) k q
  | true => exact c.finO hD (show RepO K F τ (.lst vsacc) (.lst (ds.map U.fz)) from repUs_ofD rd) k q
theorem RepDs.snoc {K : PySem.W.Frag} {F : Hp} {vs : List V} {ds : List D} {v : V} {d : D} (r : RepDs K F vs ds) (h : RepD K F v d) : RepDs K F (vs ++ [v]) (ds ++ [d]) := r.append (.cons h .nil)
theorem lc_run {K : PySem.W.Frag} {own : Bool} {ti : XI} {g : XG} {tt : XT} {te : XE} {vs : List Nat} {σ : Sl} {H : Hp} {R : VK} (h : liftE K (wLc own ti g tt te vs) σ H R) : tLc (liftI K ti) (liftGw K vs g) (liftT K tt) (liftE K te) vs σ H R := by
  obtain ⟨ρ, μ, F, τ, Q, r, q, k⟩ := h
  refine ⟨ρ, μ, F, τ, _, r, q, fun items μ1 F1 τ1 H1 J e1 r1 wk q1 => ?_⟩
  obtain ⟨hz, q1⟩ := q1
  intro D hD
  have k1 := k.at e1
  have rs := r.s.mono e1.sub e1.pre
  refine ⟨fun i m H => m + i = items.length ∧ ∃ F2 τ2 μ2 vsacc acc, InC K F1 τ1 H1 D (.lst vsacc) F2 τ2 μ2 H ∧ RepDs K F2 vsacc acc ∧ acc.length ≤ i ∧ compX g tt te (wipeR ρ vs) (items.drop i) acc μ2 fun ds μ2 => mkD own ds μ2 Q,
    ⟨items.length, rfl, F1, τ1, μ1, [], [], .start r1 hD, .nil, Nat.le_refl _, q1⟩, ?_⟩
  rintro i m H2 ⟨hm, F2, τ2, μ2, vsacc, acc, c2, rd2, hl2, w2⟩
  cases hx : items[i]? with
  | none =>
    have hl : items.length ≤ i := List.getElem?_eq_none_iff.mp hx
    rw [List.drop_eq_nil_of_le hl] at w2
    exact .inl ⟨wk.stop F2 τ2 μ2 H2 c2.ext c2.rep i hl, c2.fin hD rd2 k1 w2⟩
  | some u =>
    have hl : i < items.length := (List.getElem?_eq_some_iff.mp hx).1
    have hd : items.drop i = u :: items.drop (i + 1) := by
      rw [List.drop_eq_getElem_cons hl]
      have : items[i] = u := (List.getElem?_eq_some_iff.mp hx).2
      rw [this]
    rw [hd] at w2
    refine .inr ⟨wk.go F2 τ2 μ2 H2 c2.ext c2.rep i u hx, fun H3 => ∃ F3 τ3 μ3 vs3 acc3, InC K F1 τ1 H1 D (.lst vs3) F3 τ3 μ3 H3 ∧ RepDs K F3 vs3 acc3 ∧ acc3.length ≤ i + 1 ∧ compX g tt te (wipeR ρ vs) (items.drop (i + 1)) acc3 μ3 fun ds μ2 => mkD own ds μ2 Q,
      fun H3 h3 => ⟨m - 1, by omega, by omega, h3⟩, fun x H3 y3 => ?_⟩
    obtain ⟨F3, x3, rh3, ru3⟩ := wk.yld F2 τ2 μ2 H2 c2.ext c2.rep i u hx x H3 y3
    have c3 := c2.go x3 rh3
    have rep3 : Rep K F3 τ2 (wipeR ρ vs) μ2 (wipe σ vs) H3 := by
      refine ⟨rh3, (rs.wipe vs).mono c3.ext.sub c3.ext.pre, ?_⟩
      rw [wipeR_length, wipe_length, r.l]
    refine ⟨u, _, μ2, F3, τ2, _, rep3, ru3, w2, fun ρ4 σ4 μ4 F4 τ4 H4 x4 r4 w4 q4 => ⟨w4.trans (wipe_wipe vs), ?_⟩⟩
    have c4 := c3.go x4 r4.h
    refine ⟨ρ4, μ4, F4, τ4, _, r4, q4, fun b μ5 F5 τ5 H5 x5 r5 q5 => ?_⟩
    have c5 := c4.go x5 r5
    have rd5 := rd2.mono (x3.sub.trans (x4.sub.trans x5.sub))
    cases b with
    | false => exact iteF ⟨F5, τ5, μ5, vsacc, acc, c5, rd5, by omega, q5⟩
    | true =>
      refine iteT ⟨ρ4, μ5, F5, τ5, _, r4.at x5 r5, q5, fun z v μ6 F6 τ6 H6 x6 r6 rz q6 => ?_⟩
      have c6 := c5.go x6 r6
      cases z with
      | ptr _ => exact q6.elim
      | fz d =>
        have hlen : vsacc.length = acc.length := rd2.length
        refine ⟨vsacc, c6.at_, by rw [hlen]; omega, F6, τ6, μ6, vsacc ++ [v], acc ++ [d], c6.put hD, (rd5.mono x6.sub).snoc rz, ?_, q6⟩
        rw [List.length_append, List.length_singleton]
        omega
theorem qe_lc {elt tg iter : Expr} {ifs : List Expr} {scope : Scope} {own : List (Str × Nat)} {pos : Pos} {ti : XI} {g : XG} {tt : XT} {te : XE} (new : Bool) (hc : X.calm = true) (hN : X.N.Nodup) (hi : QI X tg iter ti) (ok : BlkOk X.N X.env.scope scope own)
    (hg : ∀ (s : Shared) (H : Hp) (C : Addr) (cl : List (Str × Addr)) (fp : List Addr), QGw (X.blk s H scope (compEnvC scope cl C X.env) fp) (own.map (·.2)) tg g)
    (ht : ∀ (s : Shared) (H : Hp) (C : Addr) (cl : List (Str × Addr)) (fp : List Addr), QTs (X.blk s H scope (compEnvC scope cl C X.env) fp) ifs tt)
    (he : ∀ (s : Shared) (H : Hp) (C : Addr) (cl : List (Str × Addr)) (fp : List Addr), QE (X.blk s H scope (compEnvC scope cl C X.env) fp) elt te) (hs : ∀ x, foldedSetIterable iter X.env x = pure x := by intro _; rfl) :
    QE X (.ListComp elt [⟨tg, iter, ifs, 0⟩] scope pos) (wLc new ti g tt te (own.map (·.2))) := PE.mono (pe_lc hc hN hi ok hg ht he hs) fun _ _ _ h => lc_run h
theorem qs_setLc {i : Nat} {y : Str} {py : Pos} {elt tg iter : Expr} {ifs : List Expr} {scope : Scope} {own : List (Str × Nat)} {pos spos : Pos} {ti : XI} {g : XG} {tt : XT} {te : XE} (new : Bool) (hc : X.calm = true) (hN : X.N.Nodup) (hy : X.N[i]? = some y) (hyl : X.env.scope.names.lookup y = some .local)
    (hsw : swapsWith (.ListComp elt [⟨tg, iter, ifs, 0⟩] scope pos) (some (.Name y py)) spos.line X.env = pure true) (hi : QI X tg iter ti) (ok : BlkOk X.N X.env.scope scope own)
    (hg : ∀ (s : Shared) (H : Hp) (C : Addr) (cl : List (Str × Addr)) (fp : List Addr), QGw (X.blk s H scope (compEnvC scope cl C X.env) fp) (own.map (·.2)) tg g)
    (ht : ∀ (s : Shared) (H : Hp) (C : Addr) (cl : List (Str × Addr)) (fp : List Addr), QTs (X.blk s H scope (compEnvC scope cl C X.env) fp) ifs tt)
    (he : ∀ (s : Shared) (H : Hp) (C : Addr) (cl : List (Str × Addr)) (fp : List Addr), QE (X.blk s H scope (compEnvC scope cl C X.env) fp) elt te) (hs : ∀ x, foldedSetIterable iter X.env x = pure x := by intro _; rfl) :
    QS X (.Assign [.Name y py] (.ListComp elt [⟨tg, iter, ifs, 0⟩] scope pos) spos) (wSet i (wLc new ti g tt te (own.map (·.2)))) :=
  PS.mono (ps_setLc hc hN hy hyl hsw hi ok hg ht he hs) fun D σ H ⟨ρ, μ, F, τ, E, r, q, c⟩ =>
    lc_run ⟨ρ, μ, F, τ, _, r, q, fun u v μ' F' τ' H' x rh ru q' => ((r.at x rh).set ru).nx (c.at x) q'⟩
end
end W3
namespace W3
open PySem PySem.Spec PyProof.Rows L2
/-! ### an own object is read alone from now on -/
def unK {κ : Type} : List (κ × U) → Option (List (κ × D))
  | [] => some []
  | (k, .fz d) :: r => (unK r).map ((k, d) :: ·)
  | (_, .ptr _) :: _ => none
def frzO : MO → Option D
  | .lst us => (unU us).map .lst
  | .dK kvs => (unK kvs).map .dK
  | .dT kvs => (unK kvs).map .dT
  | .tab _ _ _ => none
  | .gone => none
theorem unK1_rep {K : PySem.W.Frag} {F : Hp} {τ : List Addr} : ∀ {vs : List (Key × V)} {us : List (Key × U)} {ds : List (Key × D)}, RepKU K F τ vs us → unK us = some ds → RepK1 K F vs ds
  | _, _, _, .nil, e => by cases e; exact .nil
  | (j, v) :: vs, (k, .fz d) :: r, ds, .cons h t, e => by
    unfold unK at e
    obtain ⟨e0, h⟩ := h
    have e0 : j = k := e0
    subst e0
    cases q : unK r with
    | none => rw [q] at e; cases e
    | some ds' => rw [q] at e; cases e; exact .cons h (unK1_rep t q)
  | _, (_, .ptr _) :: _, _, .cons _ _, e => by cases e
theorem unK2_rep {K : PySem.W.Frag} {F : Hp} {τ : List Addr} : ∀ {vs : List (List Key × V)} {us : List (List Key × U)} {ds : List (List Key × D)}, RepKU K F τ vs us → unK us = some ds → RepK2 K F vs ds
  | _, _, _, .nil, e => by cases e; exact .nil
  | (j, v) :: vs, (k, .fz d) :: r, ds, .cons h t, e => by
    unfold unK at e
    obtain ⟨e0, h⟩ := h
    have e0 : j = k := e0
    subst e0
    cases q : unK r with
    | none => rw [q] at e; cases e
    | some ds' => rw [q] at e; cases e; exact .cons h (unK2_rep t q)
  | _, (_, .ptr _) :: _, _, .cons _ _, e => by cases e
theorem sub_at {F H : Hp} {a : Addr} {o : HO} (s : Sub F H) (h : H a = some o) : Sub (upd F a o) H := by
  have e : upd H a o = H := by
    funext b
    by_cases q : b = a
    · rw [q, upd_same, h]
    · rw [upd_ne q]
  have z := Sub.both (p := a) (o := o) s
  rw [e] at z
  exact z
theorem frz_rep {K : PySem.W.Frag} {F : Hp} {τ : List Addr} {a : Addr} {o : HO} {m : MO} {d : D} (hF : F a = none) (r : RepO K F τ o m) (e : frzO m = some d) : RepD K (upd F a o) (.ref a) d := by
  have s := Sub.new (o := o) hF
  cases m with
  | lst us =>
    cases o <;> first | exact r.elim | skip
    rename_i vs
    simp only [frzO] at e
    cases q : unU us with
    | none => rw [q] at e; cases e
    | some ds => rw [q] at e; cases e; exact .lst upd_same ((unU_rep r q).mono s)
  | dK us =>
    cases o <;> first | exact r.elim | skip
    rename_i vs
    simp only [frzO] at e
    cases q : unK us with
    | none => rw [q] at e; cases e
    | some ds => rw [q] at e; cases e; exact .dK (.inl upd_same) ((unK1_rep r q).mono s)
  | dT us =>
    cases o <;> first | exact r.elim | skip
    rename_i vs
    simp only [frzO] at e
    cases q : unK us with
    | none => rw [q] at e; cases e
    | some ds => rw [q] at e; cases e; exact .dT (.inl upd_same) ((unK2_rep r q).mono s)
  | tab n P q => cases e
  | gone => cases e
theorem frzO_live {m : MO} {d : D} (e : frzO m = some d) : m ≠ .gone := fun z => by rw [z] at e; cases e
/-- the own object n is read alone from now on -/
theorem RepH.freeze {K : PySem.W.Frag} {F H : Hp} {τ : List Addr} {μ : List MO} (r : RepH K F τ μ H) {n : Nat} {a : Addr} {m : MO} {d : D} (ha : τ[n]? = some a) (hm : μ[n]? = some m) (e : frzO m = some d) :
    ∃ F', Ext F τ H F' τ H ∧ RepH K F' τ (μ.set n .gone) H ∧ RepD K F' (.ref a) d := by
  have hg := frzO_live e
  have hfz := e
  have ln : Live μ n := ⟨m, hm, hg⟩
  have Fa := r.off n a ha ln
  obtain ⟨o, ho, ro⟩ := r.obj n a m ha hm hg
  have s := Sub.new (o := o) Fa
  have lv : ∀ i, Live (μ.set n .gone) i → n ≠ i ∧ Live μ i := fun i ⟨x, e, nx⟩ => by
    rcases getSet e with ⟨_, rfl⟩ | ⟨ne, e⟩
    · exact absurd rfl nx
    · exact ⟨ne, x, e, nx⟩
  refine ⟨upd F a o, ⟨s, ⟨[], by simp⟩, fun b u e _ _ => e, fun b z => .inl z, fun b z => ?_, fun b z => z, fun _ _ _ z => z⟩, ⟨sub_at r.sub ho, fun b z => ?_, by rw [List.length_set]; exact r.len, fun i j b e1 e2 l1 l2 => r.inj i j b e1 e2 (lv i l1).2 (lv j l2).2, fun i b e1 l => ?_, r.tr, fun i b x e1 e2 nx => ?_, fun b ps e => ?_⟩, frz_rep Fa ro e⟩
  · by_cases q : b = a
    · exact .inr (.inl (q ▸ List.mem_of_getElem? ha))
    · rw [upd_ne q] at z; exact .inl z
  · by_cases q : b = a
    · rw [q, ho] at z; cases z
    · rw [upd_ne q]; exact r.dom b z
  · have hb : b ≠ a := fun z => (lv i l).1 (r.inj n i a ha (z ▸ e1) ln (lv i l).2)
    rw [upd_ne hb]; exact r.off i b e1 (lv i l).2
  · rcases getSet e2 with ⟨_, rfl⟩ | ⟨ne, e2⟩
    · exact absurd rfl nx
    · obtain ⟨ob, eo, ro'⟩ := r.obj i b x e1 e2 nx
      exact ⟨ob, eo, ro'.mono s ⟨[], by simp⟩⟩
  · have hb : b ≠ a := fun z => by rw [z, ho] at e; exact absurd (Option.some.inj e) (ro.ntbl (fun n P q z => by rw [z] at hfz; cases hfz) ps)
    rw [upd_ne hb]; exact r.nt b ps e
def atO (μ : Mu) (n : Nat) : Option D := match μ[n]? with
  | some m => frzO m
  | none => none
theorem atO_some {μ : Mu} {n : Nat} {d : D} (e : atO μ n = some d) : ∃ m, μ[n]? = some m ∧ frzO m = some d := by
  unfold atO at e
  split at e
  · rename_i m hm
    exact ⟨m, hm, e⟩
  · cases e
/-- an expression's own object, read alone from now on -/
def wFrz (te : XE) : XE := fun ρ μ Q => te ρ μ fun u μ1 => match u with
  | .fz d => Q (.fz d) μ1
  | .ptr n => ∃ d, atO μ1 n = some d ∧ Q (.fz d) (μ1.set n .gone)
/-- a slot's own object, read alone from now on -/
def wFrzS (i : Nat) (t : XS) : XS := fun E ρ μ => match ρ[i]? with
  | some (some (.ptr n)) => ∃ d, atO μ n = some d ∧ t E (ρ.set i (some (.fz d))) (μ.set n .gone)
  | some (some (.fz _)) => t E ρ μ
  | _ => False
section
variable {X : Cx}
theorem qe_frz {e : Expr} {te : XE} (h : QE X e te) : QE X e (wFrz te) := PE.mono h fun σ H R ⟨ρ, μ, F, τ, Q, r, q, k⟩ => by
  refine ⟨ρ, μ, F, τ, _, r, q, fun u v μ1 F1 τ1 H1 e1 r1 ru q1 => ?_⟩
  cases u with
  | fz d => exact k _ _ μ1 F1 τ1 H1 e1 r1 ru q1
  | ptr n =>
    obtain ⟨d, e, q2⟩ := q1
    obtain ⟨m, hm, e⟩ := atO_some e
    obtain ⟨a, ha, rfl⟩ := ru
    obtain ⟨F2, e2, r2, rd⟩ := r1.freeze ha hm e
    exact k _ _ _ F2 τ1 H1 (e1.trans e2) r2 (RepU.fz rd) q2
theorem qss_frz {sts : List Stmt} {t : XS} (i : Nat) (h : QSs X sts t) : QSs X sts (wFrzS i t) := PSs.mono h fun D σ H ⟨ρ, μ, F, τ, E, r, q, k⟩ => by
  unfold wFrzS at q
  split at q
  · rename_i n hi
    obtain ⟨d, e, q⟩ := q
    obtain ⟨m, hm, e⟩ := atO_some e
    obtain ⟨v, hv, a, ha, rfl⟩ := r.s _ _ hi
    obtain ⟨F2, e2, r2, rd⟩ := r.h.freeze ha hm e
    have r3 := (r.at e2 r2).set (i := i) (RepU.fz rd)
    have hs : σ.set i (some (.ref a)) = σ := by
      apply List.ext_getElem?
      intro j
      by_cases q : i = j
      · subst q
        rw [List.getElem?_set_self (List.getElem?_eq_some_iff.mp hv).1, hv]
      · rw [List.getElem?_set_ne q]
    rw [hs] at r3
    exact ⟨_, _, F2, τ, E, r3, q, k.at e2⟩
  · exact ⟨_, _, F, τ, E, r, q, k⟩
  · exact q.elim
end
/-! ### defs -/
abbrev XSp := List U → Mu → UK → Prop
def liftSp (K : PySem.W.Frag) (sp : XSp) : Sp := fun vs H Q _ => ∃ us μ F τ Q3, RepH K F τ μ H ∧ RepUs K F τ vs us ∧ sp us μ Q3 ∧ Ct K F τ H Q3 Q
/-- what is handed back: own objects of the def are read alone from now on, or forgotten; the first np are the caller's -/
def back (np : Nat) (Q : UK) : UK := fun u μ => (μ.take np).all (okM np) = true ∧ match u with
  | .fz d => Q (.fz d) (μ.take np)
  | .ptr n => np ≤ n ∧ ∃ d, atO μ n = some d ∧ Q (.fz d) (μ.take np)
def startR (N : List Str) (us : List U) : Rho := us.map some ++ List.replicate (N.length - us.length) none
theorem start_rep {K : PySem.W.Frag} {F : Hp} {τ : List Addr} {N : List Str} {vs : List V} {us : List U} (h : RepUs K F τ vs us) : RepS K F τ (startR N us) (L2.start N vs) ∧ (startR N us).length = (L2.start N vs).length := by
  have hl := RepUs.length h
  unfold startR L2.start
  refine ⟨fun i u e => ?_, by simp [hl]⟩
  by_cases c : i < us.length
  · rw [List.getElem?_append_left (by rw [List.length_map]; exact c), List.getElem?_map] at e
    cases q : us[i]? with
    | none => rw [q] at e; cases e
    | some w =>
      rw [q] at e
      have e' : w = u := Option.some.inj (Option.some.inj e)
      subst e'
      obtain ⟨v, hv, rv⟩ := RepUs.get h q
      refine ⟨v, ?_, rv⟩
      rw [List.getElem?_append_left (by rw [List.length_map, hl]; exact c), List.getElem?_map, hv]
      rfl
  · rw [List.getElem?_append_right (by rw [List.length_map]; omega)] at e
    have := List.mem_of_getElem? e
    rw [List.mem_replicate] at this
    cases this.2
theorem Ct.back {K : PySem.W.Frag} {F H : Hp} {τ : List Addr} {Q : UK} {R : VK} (k : Ct K F τ H Q R) : Ct K F τ H (W3.back τ.length Q) R := fun u v μ' F' τ' H' e r ru q => by
  obtain ⟨hk, q⟩ := q
  have tr : ∀ {F2 : Hp} {μ2 : Mu}, Ext F τ H F2 τ' H' → RepH K F2 τ' μ2 H' → μ2.take τ.length = μ'.take τ.length → Ext F τ H F2 (τ'.take τ.length) H' ∧ RepH K F2 (τ'.take τ.length) (μ'.take τ.length) H' := fun {F2 μ2} e2 r2 he => by
    have R : Rep K F2 τ' [] μ2 [] H' := ⟨r2, fun i u z => by simp at z, rfl⟩
    have z := R.trim (k := τ.length) (by rw [he]; exact hk)
    rw [he] at z
    exact ⟨e2.trim (Nat.le_refl _), z.h⟩
  cases u with
  | fz d =>
    obtain ⟨e3, r3⟩ := tr e r rfl
    exact k (.fz d) v _ F' _ H' e3 r3 (RepU.fz ru) q
  | ptr n =>
    obtain ⟨hn, d, e1, q⟩ := q
    obtain ⟨m, hm, e1⟩ := atO_some e1
    obtain ⟨a, ha, rfl⟩ := ru
    obtain ⟨F2, e2, r2, rd⟩ := r.freeze ha hm e1
    obtain ⟨e3, r3⟩ := tr (e.trans e2) r2 (by rw [List.take_set_of_le hn])
    exact k _ _ _ F2 _ H' e3 r3 (RepU.fz rd) q
section
variable {P : Program} {w : World} {K : PySem.W.Frag} {mg : Str → Option Value} {base : Heap}
/-- a def, by its body's reading over plain data; raw: own objects are handed back as they are -/
theorem fnRaw {x qual : Str} {st : Stmt} {f : Addr} {fd : FuncData} {N ps : List Str} {k : Nat} {sp : XSp} {t : XS} (F : Fun K x qual st f fd) (S : FnScope N ps (defScope st)) (len : ∀ us μ Q, sp us μ Q → us.length = ps.length)
    (body : ∀ (cdv : Value) (A : Around) (outer : List Env) (s : Shared) (H : Hp) (E : XK), Room k (A.deeper (envOfC qual (defScope st) s.heap.objs.size f cdv)) →
      QSs (cxOf CX0 P w K mg base N qual (defScope st) f cdv A outer s H E).nox (defBody st) t)
    (read : ∀ us μ Q, sp us μ Q → t { nx := fun _ μ' => Q (.fz .non) μ', rt := Q } (startR N us) μ) : FnOk P w K mg base CX0 (k + 1) f fd ps (liftSp K sp) := by
  refine F.ok S (fun vs H Q E ⟨us, μ, F', τ, Q3, rh, ru, h, _⟩ => by rw [RepUs.length ru]; exact len us μ Q3 h) fun cdv A outer s H vs Q E hr ⟨us, μ, F', τ, Q3, rh, ru, h, k⟩ => ?_
  obtain ⟨rs, rl⟩ := start_rep (N := N) ru
  refine ⟨_, body cdv A outer s H E hr, startR N us, μ, F', τ, _, ⟨rh, rs, rl⟩, read us μ Q3 h, ⟨?_, k, fun ρ' σ' μ' F' τ' H' _ _ _ _ q => q.elim, fun ρ' σ' μ' F' τ' H' _ _ _ _ q => q.elim⟩⟩
  exact fun ρ' σ' μ' F2 τ' H' e r _ _ q => k _ _ μ' F2 τ' H' e r (RepU.fz .non) q
theorem fnD {x qual : Str} {st : Stmt} {f : Addr} {fd : FuncData} {N ps : List Str} {k : Nat} {sp : XSp} {t : XS} (F : Fun K x qual st f fd) (S : FnScope N ps (defScope st)) (len : ∀ us μ Q, sp us μ Q → us.length = ps.length)
    (body : ∀ (cdv : Value) (A : Around) (outer : List Env) (s : Shared) (H : Hp) (E : XK), Room k (A.deeper (envOfC qual (defScope st) s.heap.objs.size f cdv)) →
      QSs (cxOf CX0 P w K mg base N qual (defScope st) f cdv A outer s H E).nox (defBody st) t)
    (read : ∀ us μ Q, sp us μ Q → t { nx := fun _ μ' => back μ.length Q (.fz .non) μ', rt := back μ.length Q } (startR N us) μ) : FnOk P w K mg base CX0 (k + 1) f fd ps (liftSp K sp) := by
  refine F.ok S (fun vs H Q E ⟨us, μ, F', τ, Q3, rh, ru, h, _⟩ => by rw [RepUs.length ru]; exact len us μ Q3 h) fun cdv A outer s H vs Q E hr ⟨us, μ, F', τ, Q3, rh, ru, h, k⟩ => ?_
  obtain ⟨rs, rl⟩ := start_rep (N := N) ru
  have kb := k.back
  rw [rh.len] at kb
  refine ⟨_, body cdv A outer s H E hr, startR N us, μ, F', τ, _, ⟨rh, rs, rl⟩, read us μ Q3 h, ⟨?_, kb, fun ρ' σ' μ' F' τ' H' _ _ _ _ q => q.elim, fun ρ' σ' μ' F' τ' H' _ _ _ _ q => q.elim⟩⟩
  exact fun ρ' σ' μ' F2 τ' H' e r _ _ q => kb _ _ μ' F2 τ' H' e r (RepU.fz .non) q
end
end W3
namespace W3
open PySem PySem.Spec PyProof.Rows L2
/-! ### a def called: the own objects among the arguments are handed on, numbered anew -/
def ptrs : List U → List Nat
  | [] => []
  | .fz _ :: r => ptrs r
  | .ptr n :: r => n :: ptrs r
def numb (k : Nat) : List U → List U
  | [] => []
  | .fz d :: r => .fz d :: numb k r
  | .ptr _ :: r => .ptr k :: numb (k + 1) r
def backU (ns : List Nat) (m : Nat) : U → U
  | .fz d => .fz d
  | .ptr k => if k < ns.length then .ptr (ns.getD k 0) else .ptr (m + (k - ns.length))
def putAll : List Nat → List MO → Mu → Mu
  | [], [], μ => μ
  | [], m :: ms, μ => μ ++ (m :: ms)
  | _ :: _, [], μ => μ
  | n :: ns, m :: ms, μ => putAll ns ms (μ.set n m)
theorem putAll_nil (ms : List MO) (μ : Mu) : putAll [] ms μ = μ ++ ms := by
  cases ms <;> simp [putAll]
theorem putAll_len : ∀ (ns : List Nat) (ms : List MO) (μ : Mu), ns.length ≤ ms.length → (putAll ns ms μ).length = μ.length + (ms.length - ns.length)
  | [], ms, μ, _ => by rw [putAll_nil, List.length_append]; simp
  | n :: ns, [], μ, h => by simp at h
  | n :: ns, m :: ms, μ, h => by
    show (putAll ns ms (μ.set n m)).length = _
    rw [putAll_len ns ms _ (by simpa using h), List.length_set]
    simp
theorem putAll_off : ∀ (ns : List Nat) (ms : List MO) (μ : Mu) (i : Nat), ns.length ≤ ms.length → i ∉ ns → i < μ.length → (putAll ns ms μ)[i]? = μ[i]?
  | [], ms, μ, i, _, _, hi => by rw [putAll_nil, List.getElem?_append_left hi]
  | n :: ns, [], μ, i, h, _, _ => by simp at h
  | n :: ns, m :: ms, μ, i, h, hn, hi => by
    simp only [List.mem_cons, not_or] at hn
    show (putAll ns ms (μ.set n m))[i]? = _
    rw [putAll_off ns ms _ i (by simpa using h) hn.2 (by rw [List.length_set]; exact hi), List.getElem?_set_ne (fun e => hn.1 e.symm)]
theorem putAll_at : ∀ (ns : List Nat) (ms : List MO) (μ : Mu) (j n : Nat), ns.Nodup → ns.length ≤ ms.length → ns[j]? = some n → n < μ.length → (putAll ns ms μ)[n]? = ms[j]?
  | [], ms, μ, j, n, _, _, h, _ => by simp at h
  | n' :: ns, [], μ, j, n, _, h, _, _ => by simp at h
  | n' :: ns, m :: ms, μ, 0, n, nd, h, e, hn => by
    have e' : n' = n := Option.some.inj e
    subst e'
    show (putAll ns ms (μ.set n' m))[n']? = _
    rw [putAll_off ns ms _ n' (by simpa using h) (List.nodup_cons.mp nd).1 (by rw [List.length_set]; exact hn), List.getElem?_set_self hn]
    rfl
  | n' :: ns, m :: ms, μ, j + 1, n, nd, h, e, hn => by
    show (putAll ns ms (μ.set n' m))[n]? = _
    rw [putAll_at ns ms _ j n (List.nodup_cons.mp nd).2 (by simpa using h) (by simpa using e) (by rw [List.length_set]; exact hn)]
    rfl
theorem putAll_new : ∀ (ns : List Nat) (ms : List MO) (μ : Mu) (i : Nat), ns.length ≤ ms.length → (putAll ns ms μ)[μ.length + i]? = ms[ns.length + i]?
  | [], ms, μ, i, _ => by rw [putAll_nil, List.getElem?_append_right (Nat.le_add_right _ _)]; simp
  | n :: ns, [], μ, i, h => by simp at h
  | n :: ns, m :: ms, μ, i, h => by
    have q := putAll_new ns ms (μ.set n m) i (by simpa using h)
    rw [List.length_set] at q
    show (putAll ns ms (μ.set n m))[μ.length + i]? = _
    rw [q, List.length_cons, show ns.length + 1 + i = (ns.length + i) + 1 by omega]
    rfl
def objAt (μ : Mu) (n : Nat) : MO := μ.getD n .gone
def liveO : MO → Bool
  | .gone => false
  | _ => true
def okArg (μ : Mu) (n : Nat) : Bool := liveO (objAt μ n) && okM 0 (objAt μ n)
def wFn (sp : XSp) (t : XA) : XE := fun ρ μ Q => t ρ μ fun us μ1 => ((ptrs us).Nodup ∧ (ptrs us).all (okArg μ1) = true) ∧
  sp (numb 0 us) ((ptrs us).map (objAt μ1)) fun u μ' => ((ptrs us).length ≤ μ'.length ∧ μ'.all (okM 0) = true) ∧ Q (backU (ptrs us) μ1.length u) (putAll (ptrs us) μ' μ1)
section
variable {K : PySem.W.Frag} {F H : Hp} {τ : List Addr} {μ : Mu}
theorem okArg_of {n : Nat} (h : okArg μ n = true) : ∃ m, μ[n]? = some m ∧ m ≠ .gone ∧ okM 0 m = true ∧ objAt μ n = m := by
  unfold okArg objAt at h
  rw [Bool.and_eq_true] at h
  rw [List.getD_eq_getElem?_getD] at h
  cases q : μ[n]? with
  | none => rw [q] at h; cases h.1
  | some m =>
    rw [q] at h
    refine ⟨m, rfl, fun z => ?_, h.2, ?_⟩
    · rw [z] at h; cases h.1
    · unfold objAt; rw [List.getD_eq_getElem?_getD, q]; rfl
theorem numb_rep {sl : Nat → Addr} (r : RepH K F τ μ H) : ∀ {vs : List V} {us : List U} {k : Nat} {pre : List Addr}, RepUs K F τ vs us → pre.length = k → (∀ n ∈ ptrs us, τ[n]? = some (sl n)) → RepUs K F (pre ++ (ptrs us).map sl) vs (numb k us)
  | _, _, _, _, .nil, _, _ => .nil
  | _, .fz d :: us, k, pre, .cons h t, hk, hs => .cons (RepU.fz h) (numb_rep r t hk hs)
  | _, .ptr n :: us, k, pre, .cons h t, hk, hs => by
    obtain ⟨a, ha, rfl⟩ := h
    have e : a = sl n := Option.some.inj (ha.symm.trans (hs n (by simp [ptrs])))
    have ih := numb_rep r (k := k + 1) (pre := pre ++ [sl n]) t (by simp [hk]) fun n' hn' => hs n' (by simp [ptrs, hn'])
    rw [List.append_assoc] at ih
    refine .cons ⟨sl n, ?_, by rw [e]⟩ ih
    show (pre ++ sl n :: (ptrs us).map sl)[k]? = _
    rw [List.getElem?_append_right (by omega), hk, Nat.sub_self]
    rfl
theorem call_pre {us : List U} {vs : List V} (r : RepH K F τ μ H) (ru : RepUs K F τ vs us) (nd : (ptrs us).Nodup) (ok : (ptrs us).all (okArg μ) = true) :
    ∃ τc : List Addr, τc.length = (ptrs us).length ∧ (∀ (j n : Nat), (ptrs us)[j]? = some n → ∃ a, τc[j]? = some a ∧ τ[n]? = some a ∧ n < μ.length) ∧ RepH K F τc ((ptrs us).map (objAt μ)) H ∧ RepUs K F τc vs (numb 0 us) := by
  have hk : ∀ n ∈ ptrs us, ∃ m a, μ[n]? = some m ∧ m ≠ .gone ∧ okM 0 m = true ∧ objAt μ n = m ∧ τ[n]? = some a := fun n hn => by
    obtain ⟨m, h1, h2, h3, h4⟩ := okArg_of (List.all_eq_true.mp ok n hn)
    have hl : n < τ.length := by rw [r.len]; exact (List.getElem?_eq_some_iff.mp h1).1
    exact ⟨m, τ[n], h1, h2, h3, h4, List.getElem?_eq_getElem hl⟩
  have hs : ∀ n ∈ ptrs us, τ[n]? = some (τ.getD n 0) := fun n hn => by
    obtain ⟨m, a, _, _, _, _, ha⟩ := hk n hn
    rw [List.getD_eq_getElem?_getD, ha]; rfl
  have at_ : ∀ (j : Nat) (a : Addr), ((ptrs us).map fun n => τ.getD n 0)[j]? = some a → ∃ n, (ptrs us)[j]? = some n ∧ τ[n]? = some a ∧ n ∈ ptrs us := fun j a e => by
    rw [List.getElem?_map] at e
    cases q : (ptrs us)[j]? with
    | none => rw [q] at e; cases e
    | some n =>
      rw [q] at e
      have hn := List.mem_of_getElem? q
      exact ⟨n, rfl, by rw [hs n hn]; exact e, hn⟩
  refine ⟨(ptrs us).map fun n => τ.getD n 0, List.length_map _, fun j n e => ?_, ⟨r.sub, r.dom, by rw [List.length_map, List.length_map], fun i j a e1 e2 l1 l2 => ?_, fun i a e l => ?_, fun i a e => ?_, fun i a m e1 e2 n => ?_, r.nt⟩, ?_⟩
  · have hn := List.mem_of_getElem? e
    obtain ⟨m, a, h1, _, _, _, ha⟩ := hk n hn
    refine ⟨a, ?_, ha, (List.getElem?_eq_some_iff.mp h1).1⟩
    rw [List.getElem?_map, e]
    show some (τ.getD n 0) = some a
    rw [List.getD_eq_getElem?_getD, ha]; rfl
  · obtain ⟨n1, q1, t1, m1⟩ := at_ i a e1
    obtain ⟨n2, q2, t2, m2⟩ := at_ j a e2
    obtain ⟨x1, _, h1, g1, _⟩ := hk n1 m1
    obtain ⟨x2, _, h2, g2, _⟩ := hk n2 m2
    have e := r.inj n1 n2 a t1 t2 ⟨x1, h1, g1⟩ ⟨x2, h2, g2⟩
    subst e
    exact nd_ix nd q1 q2
  · obtain ⟨n1, q1, t1, m1⟩ := at_ i a e
    obtain ⟨x1, _, h1, g1, _⟩ := hk n1 m1
    exact r.off n1 a t1 ⟨x1, h1, g1⟩
  · obtain ⟨n1, q1, t1, m1⟩ := at_ i a e
    exact r.tr n1 a t1
  · obtain ⟨n1, q1, t1, m1⟩ := at_ i a e1
    obtain ⟨x1, _, h1, g1, o1, ob1, _⟩ := hk n1 m1
    rw [List.getElem?_map, q1] at e2
    have e2' : objAt μ n1 = m := Option.some.inj e2
    rw [ob1] at e2'
    subst e2'
    obtain ⟨o, eo, ro⟩ := r.obj n1 a x1 t1 h1 g1
    refine ⟨o, eo, ?_⟩
    have z := okM_rep ro o1
    rw [List.take_zero] at z
    exact z.mono (.refl F) ⟨_, by rw [List.nil_append]⟩
  · have z := numb_rep (sl := fun n => τ.getD n 0) r (k := 0) (pre := []) ru rfl hs
    exact z
theorem call_post {us : List U} {τc : List Addr} {Q : UK} {R : VK} (r : RepH K F τ μ H) (k : Ct K F τ H Q R) (nd : (ptrs us).Nodup) (hl : τc.length = (ptrs us).length) (ht : ∀ (j n : Nat), (ptrs us)[j]? = some n → ∃ a, τc[j]? = some a ∧ τ[n]? = some a ∧ n < μ.length) (ok : (ptrs us).all (okArg μ) = true) :
    Ct K F τc H (fun u μ' => ((ptrs us).length ≤ μ'.length ∧ μ'.all (okM 0) = true) ∧ Q (backU (ptrs us) μ.length u) (putAll (ptrs us) μ' μ)) R := fun u v μ' F' τ' H' e r' ru ⟨⟨hlen, hok⟩, q⟩ => by
  obtain ⟨tn, htn⟩ := e.pre
  -- the caller's table behind the call
  have lc : τc.length ≤ τ'.length := by rw [htn, List.length_append]; omega
  have sub : ∀ b, b ∈ τc → b ∈ τ := fun b hb => by
    obtain ⟨j, hj⟩ := List.getElem?_of_mem hb
    have hjl : j < (ptrs us).length := by rw [← hl]; exact (List.getElem?_eq_some_iff.mp hj).1
    obtain ⟨a, h1, h2, _⟩ := ht j _ (List.getElem?_eq_getElem hjl)
    have : a = b := Option.some.inj (h1.symm.trans hj)
    subst this
    exact List.mem_of_getElem? h2
  have lk : ∀ n ∈ ptrs us, ∃ m, μ[n]? = some m ∧ m ≠ .gone := fun n hn => by
    obtain ⟨m, h1, h2, _⟩ := okArg_of (List.all_eq_true.mp ok n hn)
    exact ⟨m, h1, h2⟩
  have plen := putAll_len (ptrs us) μ' μ hlen
  have tnl : tn.length = μ'.length - (ptrs us).length := by
    have h1 := r'.len
    rw [htn, List.length_append, hl] at h1
    omega
  -- an entry of the new table: a handed-on one, an untouched one, a new one
  have cases_ : ∀ (i : Nat) (a : Addr), (τ ++ tn)[i]? = some a → (∃ j, (ptrs us)[j]? = some i ∧ τ'[j]? = some a ∧ (putAll (ptrs us) μ' μ)[i]? = μ'[j]? ∧ τ[i]? = some a) ∨
      (i ∉ ptrs us ∧ i < μ.length ∧ τ[i]? = some a ∧ (putAll (ptrs us) μ' μ)[i]? = μ[i]?) ∨
      (∃ j, i = μ.length + j ∧ τ'[(ptrs us).length + j]? = some a ∧ (putAll (ptrs us) μ' μ)[i]? = μ'[(ptrs us).length + j]? ∧ a ∈ tn) := fun i a ei => by
    by_cases hi : i < τ.length
    · rw [List.getElem?_append_left hi] at ei
      have hiμ : i < μ.length := by rw [← r.len]; exact hi
      by_cases hm : i ∈ ptrs us
      · obtain ⟨j, hj⟩ := List.getElem?_of_mem hm
        obtain ⟨b, h1, h2, _⟩ := ht j i hj
        have : b = a := Option.some.inj (h2.symm.trans ei)
        subst this
        refine .inl ⟨j, hj, ?_, putAll_at _ _ _ j i nd hlen hj hiμ, ei⟩
        rw [htn, List.getElem?_append_left (List.getElem?_eq_some_iff.mp h1).1]
        exact h1
      · exact .inr (.inl ⟨hm, hiμ, ei, putAll_off _ _ _ i hlen hm hiμ⟩)
    · rw [List.getElem?_append_right (by omega)] at ei
      refine .inr (.inr ⟨i - τ.length, by rw [← r.len]; omega, ?_, ?_, List.mem_of_getElem? ei⟩)
      · rw [htn, ← hl, List.getElem?_append_right (Nat.le_add_right _ _), Nat.add_sub_cancel_left]
        exact ei
      · have := putAll_new (ptrs us) μ' μ (i - τ.length) hlen
        rw [show μ.length + (i - τ.length) = i by rw [← r.len]; omega] at this
        exact this
  have newH : ∀ a, a ∈ tn → H a = none ∨ a ∈ τc := fun a ha => by
    rcases e.new a (by rw [htn]; exact List.mem_append_right _ ha) with z | z
    · exact .inr z
    · exact .inl z
  have mono0 : ∀ {o : HO} {m : MO}, RepO K F' τ' o m → m ∈ μ' → RepO K F' (τ ++ tn) o m := fun {o m} ro hm => by
    have z := okM_rep ro (List.all_eq_true.mp hok m hm)
    rw [List.take_zero] at z
    exact z.mono (.refl F') ⟨_, by rw [List.nil_append]⟩
  have fr : ∀ (i : Nat) (a : Addr), i ∉ ptrs us → τ[i]? = some a → Live μ i → a ∉ τc := fun i a hn hi li z => by
    obtain ⟨j, hj⟩ := List.getElem?_of_mem z
    have hjl : j < (ptrs us).length := by rw [← hl]; exact (List.getElem?_eq_some_iff.mp hj).1
    obtain ⟨b, h1, h2, _⟩ := ht j _ (List.getElem?_eq_getElem hjl)
    have e1 : b = a := Option.some.inj (h1.symm.trans hj)
    subst e1
    have hmem : (ptrs us)[j] ∈ ptrs us := List.getElem_mem hjl
    have := r.inj i _ b hi h2 li (lk _ hmem)
    exact hn (this ▸ hmem)
  refine k (backU (ptrs us) μ.length u) v _ F' (τ ++ tn) H' ⟨e.sub, ⟨tn, rfl⟩, fun b o eb nb hq => e.fr b o eb (fun z => nb (sub b z)) hq, fun b z => ?_, fun b z => ?_, e.keep, e.fz⟩ ⟨r'.sub, r'.dom, ?_, fun i j a e1 e2 l1 l2 => ?_, fun i a ei li => ?_, fun i a ei => ?_, fun i a m ei em nm => ?_, r'.nt⟩ ?_ q
  · rcases List.mem_append.mp z with z | z
    · exact .inl z
    · rcases newH b z with z | z
      · exact .inr z
      · exact .inl (sub b z)
  · rcases e.nF b z with z | z | z
    · exact .inl z
    · exact .inr (.inl (sub b z))
    · exact .inr (.inr z)
  · rw [List.length_append, plen, r.len, tnl]
  · -- injective
    have big : ∀ (i : Nat) (a : Addr), (τ ++ tn)[i]? = some a → Live (putAll (ptrs us) μ' μ) i → (∃ j, τ'[j]? = some a ∧ Live μ' j ∧ ((ptrs us)[j]? = some i ∨ ∃ d, i = μ.length + d ∧ j = (ptrs us).length + d)) ∨ (i ∉ ptrs us ∧ τ[i]? = some a ∧ Live μ i) := fun i a ei ⟨m, em, nm⟩ => by
      rcases cases_ i a ei with ⟨j, hj, h1, h2, _⟩ | ⟨h1, h2, h3, h4⟩ | ⟨j, h1, h2, h3, _⟩
      · exact .inl ⟨j, h1, ⟨m, by rw [← h2]; exact em, nm⟩, .inl hj⟩
      · exact .inr ⟨h1, h3, ⟨m, by rw [← h4]; exact em, nm⟩⟩
      · exact .inl ⟨_, h2, ⟨m, by rw [← h3]; exact em, nm⟩, .inr ⟨j, h1, rfl⟩⟩
    have apart : ∀ (i j : Nat) (a : Addr), τ'[j]? = some a → i ∉ ptrs us → τ[i]? = some a → Live μ i → False := fun i j a hj hn hi li => by
      have hm : a ∈ τc ++ tn := by rw [← htn]; exact List.mem_of_getElem? hj
      rcases List.mem_append.mp hm with z | z
      · exact fr i a hn hi li z
      · rcases newH a z with z | z
        · exact r.tr i a hi z
        · exact fr i a hn hi li z
    rcases big i a e1 l1 with ⟨j1, h1, g1, k1⟩ | ⟨h1, g1, k1⟩
    · rcases big j a e2 l2 with ⟨j2, h2, g2, k2⟩ | ⟨h2, g2, k2⟩
      · have ej := r'.inj j1 j2 a h1 h2 g1 g2
        subst ej
        rcases k1 with k1 | ⟨d1, k1, k1'⟩
        · rcases k2 with k2 | ⟨d2, k2, k2'⟩
          · exact Option.some.inj (k1.symm.trans k2)
          · have := (List.getElem?_eq_some_iff.mp k1).1
            omega
        · rcases k2 with k2 | ⟨d2, k2, k2'⟩
          · have := (List.getElem?_eq_some_iff.mp k2).1
            omega
          · omega
      · exact (apart j j1 a h1 h2 g2 k2).elim
    · rcases big j a e2 l2 with ⟨j2, h2, g2, k2⟩ | ⟨h2, g2, k2⟩
      · exact (apart i j2 a h2 h1 g1 k1).elim
      · exact r.inj i j a g1 g2 k1 k2
  · obtain ⟨m, em, nm⟩ := li
    rcases cases_ i a ei with ⟨j, hj, h1, h2, _⟩ | ⟨h1, h2, h3, h4⟩ | ⟨j, h1, h2, h3, _⟩
    · exact r'.off j a h1 ⟨m, by rw [← h2]; exact em, nm⟩
    · have li : Live μ i := ⟨m, by rw [← h4]; exact em, nm⟩
      cases q : F' a with
      | none => rfl
      | some o =>
        rcases e.nF a (by rw [q]; intro z; cases z) with z | z | z | ⟨vs, z⟩
        · exact absurd (r.off i a h3 li) z
        · exact absurd z (fr i a h1 h3 li)
        · exact absurd z (r.tr i a h3)
        · obtain ⟨m0, em0, nm0⟩ := li
          obtain ⟨o0, eo0, ro0⟩ := r.obj i a m0 h3 em0 nm0
          rw [z] at eo0
          cases eo0
          cases m0 <;> exact ro0.elim
    · exact r'.off _ a h2 ⟨m, by rw [← h3]; exact em, nm⟩
  · rcases cases_ i a ei with ⟨j, hj, h1, h2, _⟩ | ⟨h1, h2, h3, h4⟩ | ⟨j, h1, h2, h3, _⟩
    · exact r'.tr j a h1
    · exact fun z => r.tr i a h3 (e.keep a z)
    · exact r'.tr _ a h2
  · rcases cases_ i a ei with ⟨j, hj, h1, h2, _⟩ | ⟨h1, h2, h3, h4⟩ | ⟨j, h1, h2, h3, _⟩
    · rw [h2] at em
      obtain ⟨o, eo, ro⟩ := r'.obj j a m h1 em nm
      exact ⟨o, eo, mono0 ro (List.mem_of_getElem? em)⟩
    · rw [h4] at em
      obtain ⟨o, eo, ro⟩ := r.obj i a m h3 em nm
      exact ⟨o, e.fr a o eo (fr i a h1 h3 ⟨m, em, nm⟩) (.inl (r.off i a h3 ⟨m, em, nm⟩)), ro.mono e.sub ⟨tn, rfl⟩⟩
    · rw [h3] at em
      obtain ⟨o, eo, ro⟩ := r'.obj _ a m h2 em nm
      exact ⟨o, eo, mono0 ro (List.mem_of_getElem? em)⟩
  · cases u with
    | fz d => exact ru
    | ptr j =>
      obtain ⟨a, ha, rfl⟩ := ru
      simp only [backU]
      by_cases hj : j < (ptrs us).length
      · rw [if_pos hj]
        obtain ⟨b, h1, h2, _⟩ := ht j _ (List.getElem?_eq_getElem hj)
        have : b = a := by
          rw [htn, List.getElem?_append_left (by rw [hl]; exact hj)] at ha
          exact Option.some.inj (h1.symm.trans ha)
        subst this
        refine ⟨b, ?_, rfl⟩
        rw [List.getD_eq_getElem?_getD, List.getElem?_eq_getElem hj]
        show (τ ++ tn)[(ptrs us)[j]]? = _
        rw [List.getElem?_append_left (List.getElem?_eq_some_iff.mp h2).1]
        exact h2
      · rw [if_neg hj]
        refine ⟨a, ?_, rfl⟩
        rw [htn, List.getElem?_append_right (by omega)] at ha
        rw [← r.len, List.getElem?_append_right (by omega), Nat.add_sub_cancel_left, ← hl]
        exact ha
end
section
variable {X : Cx} {k : Nat} {f : Addr} {fd : FuncData} {ps : List Str} {sp : XSp} {x : Str} {p pos : Pos} {e : Expr} {es : List Expr} {t : XA}
theorem fn_lift {K : PySem.W.Frag} {σ : Sl} {H : Hp} {R : VK} (h : liftE K (wFn sp t) σ H R) : tCall (liftSp K sp) [] E0 (liftA K t) σ H R := by
  obtain ⟨ρ, μ, F, τ, Q, r, q, k⟩ := h
  refine ⟨ρ, μ, F, τ, _, r, q, fun us vs μ1 F1 τ1 H1 e1 r1 rus q1 => ?_⟩
  obtain ⟨⟨nd, ok⟩, q1⟩ := q1
  obtain ⟨τc, hl, ht, rc, ruc⟩ := call_pre r1 rus nd ok
  rw [List.append_nil]
  exact ⟨numb 0 us, _, F1, τc, _, rc, ruc, q1, call_post r1 (k.at e1) nd hl ht ok⟩
theorem qe_call (G : FnOk X.prog X.w X.K X.mg X.base CX0 k f fd ps (liftSp X.K sp)) (hr : Room k X.A) (hm : X.mg x = some (.ref f)) (hk : PySem.W.keepIn X.K (.ref f) = true) (hb : Binds X.K fd ps []) (ha : QA X (e :: es) t) (hg : Gl X x := by rfl)
    (hdb : (x == ("__debug__" : Str)) = false := by decide) (he : starEach (e :: es) X.env = (false, eval e X.env) :: starEach es X.env := by rfl) (hpl : (backTo pos (starEach es X.env)).any (·.1) = false := by rfl) :
    QE X (.Call (.Name x p) (e :: es) [] pos) (wFn sp t) :=
  PE.mono (pe_call G hr hg hm hk hb .nil pass0 ha hdb he hpl) fun _ _ _ h => fn_lift h
/-! ### the end of a law: the script is a list of ints that is read alone -/
def noTbl (H : Hp) : Hp := fun a => match H a with
  | some (.tbl _) => none
  | o => o
theorem noTbl_of {H : Hp} {a : Addr} {o : HO} (h : noTbl H a = some o) : H a = some o := by
  unfold noTbl at h
  split at h
  · cases h
  · exact h
theorem noTbl_at {H : Hp} {a : Addr} {o : HO} (h : H a = some o) (n : ∀ ps, o ≠ .tbl ps) : noTbl H a = some o := by
  unfold noTbl
  rw [h]
  split
  · rename_i ps e
    exact absurd (Option.some.inj e) (n ps)
  · rfl
theorem noTbl_none {H : Hp} {a : Addr} (h : H a = none) : noTbl H a = none := by unfold noTbl; rw [h]
theorem noTbl_tbl {H : Hp} {a : Addr} {ps : Array Value} (h : H a = some (.tbl ps)) : noTbl H a = none := by unfold noTbl; rw [h]
theorem noTbl_sqL {K : PySem.W.Frag} {H : Hp} {a : Addr} {vs : List V} (h : SqL K H a vs) : SqL K (noTbl H) a vs := by
  rcases h with (h | ⟨ob, h⟩) | h
  · exact .inl (.inl (noTbl_at h fun ps z => by cases z))
  · exact .inl (.inr ⟨ob, noTbl_at h fun ps z => by cases z⟩)
  · exact .inr h
theorem law_of {K : PySem.W.Frag} {vs : List V} {H : Hp} {a : Addr} {ns : List Int} {Q : VK} (hS : SqL K H a (ns.map V.int)) (hq : ∀ H', Q (.bl true) H') (h : sp [.fz (.slst (ns.map .int))] [] fun u μ => u = .fz (.bl true)) : liftSp K sp [.ref a] H Q E0 := by
  refine ⟨_, [], noTbl H, [], _, ⟨Sub.of fun a o z => noTbl_of z, fun _ z => noTbl_none z, rfl, fun i j a e => by simp at e, fun i a e => by simp at e, fun i a e => by simp at e, fun i a m e => by simp at e, fun a ps z => noTbl_tbl z⟩, .cons (RepU.fz (.slst (noTbl_sqL hS) (repInts ns))) .nil, h, ?_⟩
  intro u v μ' F' τ' H' _ _ ru q
  subst q
  rw [bl_of ru]
  exact hq H'
end
end W3
namespace W3
open PySem PySem.Spec PyProof.Rows L2
section
variable {X : Cx} {a b c : Expr} {ta tb tc : XE} {pos : Pos}
/-! ### chains -/
def wChain (o o' : X2) (ta tb tc : XE) : XE := fun ρ μ Q => ta ρ μ fun u μ1 => tb ρ μ1 fun w μ2 => o u w μ2 fun z μ3 => match z with
  | .fz (.bl true) => tc ρ μ3 fun y μ4 => o' w y μ4 Q
  | .fz (.bl false) => Q (.fz (.bl false)) μ3
  | _ => False
theorem chain {K : PySem.W.Frag} {o o' : X2} {σ : Sl} {H : Hp} {R : VK} (h : liftE K (wChain o o' ta tb tc) σ H R) : tChain (liftO K o) (liftO K o') (liftE K ta) (liftE K tb) (liftE K tc) σ H R := by
  obtain ⟨ρ, μ, F, τ, Q, r0, q, k⟩ := h
  refine ⟨ρ, μ, F, τ, _, r0, q, fun u v μ1 F1 τ1 H1 e1 r1 ru q1 => ?_⟩
  refine ⟨ρ, μ1, F1, τ1, _, r0.at e1 r1, q1, fun w y μ2 F2 τ2 H2 e2 r2 rw' q2 => ?_⟩
  refine ⟨F2, τ2, μ2, u, w, _, r2, ru.at e2, rw', q2, fun z x μ3 F3 τ3 H3 e3 r3 rz q3 => ?_⟩
  have k3 := k.at (e1.trans (e2.trans e3))
  split at q3
  · refine ⟨true, bl_of rz, iteT ?_⟩
    refine ⟨ρ, μ3, F3, τ3, _, r0.at (e1.trans (e2.trans e3)) r3, q3, fun y' x' μ4 F4 τ4 H4 e4 r4 ry q4 => ?_⟩
    exact ⟨F4, τ4, μ4, w, y', Q, r4, (rw'.at e3).at e4, ry, q4, k3.at e4⟩
  · exact ⟨false, bl_of rz, iteF (k3.ret r3 (RepU.fz (.bl false)) q3)⟩
  · exact q3.elim
theorem qe_chain {op op' : CmpOp} {o o' : X2} (ho : QO X (compareOp op) o) (ho' : QO X (compareOp op') o') (ha : QE X a ta) (hb : QE X b tb) (hc : QE X c tc) (hm : lastMarks [op, op'] [b, c] = false := by with_unfolding_all rfl) :
    QE X (.Compare a [op, op'] [b, c] pos) (wChain o o' ta tb tc) := PE.mono (pe_chain ho ho' ha hb hc hm) fun _ _ _ h => chain h
theorem qt_chain {op op' : CmpOp} {o o' : X2} (ho : QO X (compareOp op) o) (ho' : QO X (compareOp op') o') (ha : QE X a ta) (hb : QE X b tb) (hc : QE X c tc) (hm : lastMarks [op, op'] [b, c] = false := by with_unfolding_all rfl) :
    QT X (.Compare a [op, op'] [b, c] pos) (wB (wChain o o' ta tb tc)) := PT.mono (pt_chain ho ho' ha hb hc hm) fun σ H R h => by
  obtain ⟨ρ, μ, F, τ, Q, r, q, k⟩ := liftB h
  exact chain ⟨ρ, μ, F, τ, Q, r, q, k⟩
/-! ### a, b = x, y -/
def wPar (is : List Nat) (ta : XA) : XS := fun E ρ μ => ta ρ μ fun us μ1 => E.nx ((is.zip us).foldl (fun r p => r.set p.1 (some p.2)) ρ) μ1
def wPar2 (i j : Nat) (ta : XA) : XS := fun E ρ μ => ta ρ μ fun us μ1 => match us with
  | [u, w] => E.nx ((ρ.set i (some u)).set j (some w)) μ1
  | _ => False
def wPar3 (i j l : Nat) (ta : XA) : XS := fun E ρ μ => ta ρ μ fun us μ1 => match us with
  | [u, w, z] => E.nx (((ρ.set i (some u)).set j (some w)).set l (some z)) μ1
  | _ => False
theorem par2 {K : PySem.W.Frag} {i j : Nat} {ta : XA} {D : Ends} {σ : Sl} {H : Hp} (h : liftS K (wPar2 i j ta) D σ H) : tPar i j (liftA K ta) D σ H := by
  obtain ⟨ρ, μ, F, τ, E, r, q, k⟩ := h
  refine ⟨ρ, μ, F, τ, _, r, q, fun us vs μ1 F1 τ1 H1 e1 r1 rus q1 => ?_⟩
  split at q1
  · obtain ⟨v, x, rfl, rv, rx⟩ := two_of rus
    exact ⟨v, x, rfl, (((r.at e1 r1).set rv).set rx).nx (k.at e1) q1⟩
  · exact q1.elim
theorem par3 {K : PySem.W.Frag} {i j l : Nat} {ta : XA} {D : Ends} {σ : Sl} {H : Hp} (h : liftS K (wPar3 i j l ta) D σ H) : tPar3 i j l (liftA K ta) D σ H := by
  obtain ⟨ρ, μ, F, τ, E, r, q, k⟩ := h
  refine ⟨ρ, μ, F, τ, _, r, q, fun us vs μ1 F1 τ1 H1 e1 r1 rus q1 => ?_⟩
  split at q1
  · cases rus with
    | cons rv rt =>
      obtain ⟨x, y, rfl, rx, ry⟩ := two_of rt
      exact ⟨_, x, y, rfl, ((((r.at e1 r1).set rv).set rx).set ry).nx (k.at e1) q1⟩
  · exact q1.elim
theorem qs_par2 {st : Stmt} {i j : Nat} {ta : XA} (h : ∀ {t : TA}, PA X [a, b] t → PS X st (tPar i j t)) (ha : QA X [a, b] ta) : QS X st (wPar2 i j ta) := PS.mono (h ha) fun _ _ _ q => par2 q
theorem qs_par3 {st : Stmt} {i j l : Nat} {ta : XA} (h : ∀ {t : TA}, PA X [a, b, c] t → PS X st (tPar3 i j l t)) (ha : QA X [a, b, c] ta) : QS X st (wPar3 i j l ta) := PS.mono (h ha) fun _ _ _ q => par3 q
/-! ### dicts made -/
def wNewK : XE := fun _ μ Q => Q (.ptr μ.length) (μ ++ [.dK []])
def wNewT : XE := fun _ μ Q => Q (.ptr μ.length) (μ ++ [.dT []])
theorem qe_newK : QE X (.Dict [] [] pos) wNewK := PE.mono pe_dnewK fun σ H R ⟨ρ, μ, F, τ, Q, r, q, k⟩ => new_own r.h k (show RepO X.K F τ (.dK []) (.dK []) from .nil) q
theorem qe_newT : QE X (.Dict [] [] pos) wNewT := PE.mono pe_dnewT fun σ H R ⟨ρ, μ, F, τ, Q, r, q, k⟩ => new_own r.h k (show RepO X.K F τ (.dT []) (.dT []) from .nil) q
def mkK (own : Bool) (kds : List (Key × D)) (μ : Mu) (Q : UK) : Prop := match own with
  | true => Q (.ptr μ.length) (μ ++ [.dK (kds.map fun p => (p.1, .fz p.2))])
  | false => Q (.fz (.dK kds)) μ
def compK (g : XG) (tt : XT) (tk te : XE) (ρ : Rho) : List U → List (Key × D) → Mu → (List (Key × D) → Mu → Prop) → Prop
  | [], acc, μ, K => K acc μ
  | x :: r, acc, μ, K => g x ρ μ fun ρ2 μ1 => tt ρ2 μ1 fun b μ2 => match b with
    | true => tk ρ2 μ2 fun w μ3 => te ρ2 μ3 fun u μ4 => match w, u with
      | .fz kd, .fz d => ∃ k, keyD kd = some k ∧ compK g tt tk te ρ r (putA acc k d) μ4 K
      | _, _ => False
    | false => compK g tt tk te ρ r acc μ2 K
def wDc (own : Bool) (ti : XI) (g : XG) (tt : XT) (tk te : XE) (vs : List Nat) : XE := fun ρ μ Q => ti ρ μ fun items μ1 => items.length ≤ sizeLine ∧ compK g tt tk te (wipeR ρ vs) items [] μ1 fun kds μ2 => mkK own kds μ2 Q
theorem repKU_of {K : PySem.W.Frag} {F : Hp} {τ : List Addr} : ∀ {vs : List (Key × V)} {ds : List (Key × D)}, RepK1 K F vs ds → RepKU K F τ vs (ds.map fun p => (p.1, .fz p.2))
  | _, _, .nil => .nil
  | _, _, .cons h r => .cons ⟨rfl, h⟩ (repKU_of r)
theorem RepK1.length {K : PySem.W.Frag} {F : Hp} : ∀ {vs : List (Key × V)} {ds : List (Key × D)}, RepK1 K F vs ds → vs.length = ds.length
  | _, _, .nil => rfl
  | _, _, .cons _ r => congrArg (· + 1) (RepK1.length r)
theorem RepK1.put {K : PySem.W.Frag} {F : Hp} {v : V} {d : D} (h : RepD K F v d) (k : Key) {vs : List (Key × V)} {ds : List (Key × D)} (r : RepK1 K F vs ds) : RepK1 K F (putK vs k v) (putA ds k d) := by
  have any : ∀ {vs : List (Key × V)} {us : List (Key × D)}, RepK1 K F vs us → (vs.any fun kv => decide (kv.1 = k)) = (us.any fun kv => decide (kv.1 = k)) := by
    intro vs us r
    induction vs generalizing us with
    | nil => cases r; rfl
    | cons p vs ih =>
      cases r with
      | cons h r => rw [List.any_cons, List.any_cons, ih r]
  have mp : ∀ {vs : List (Key × V)} {us : List (Key × D)}, RepK1 K F vs us → RepK1 K F (vs.map fun kv => if kv.1 = k then (kv.1, v) else kv) (us.map fun kv => if kv.1 = k then (kv.1, d) else kv) := by
    intro vs us r
    induction vs generalizing us with
    | nil => cases r; exact .nil
    | cons p vs ih =>
      cases r with
      | @cons k' _ _ _ _ h' r =>
        rw [List.map_cons, List.map_cons]
        dsimp only
        by_cases c : k' = k
        · rw [if_pos c, if_pos c]; exact .cons h (ih r)
        · rw [if_neg c, if_neg c]; exact .cons h' (ih r)
  have ap : ∀ {vs : List (Key × V)} {us : List (Key × D)}, RepK1 K F vs us → RepK1 K F (vs ++ [(k, v)]) (us ++ [(k, d)]) := by
    intro vs us r
    induction vs generalizing us with
    | nil => cases r; exact .cons h .nil
    | cons p vs ih =>
      cases r with
      | cons h' r => exact .cons h' (ih r)
  unfold putK putA
  rw [any r]
  by_cases c : (ds.any fun kv => decide (kv.1 = k)) = true
  · rw [if_pos c, if_pos c]; exact mp r
  · rw [if_neg c, if_neg c]; exact ap r
theorem putA_len {κ α : Type} [DecidableEq κ] (kvs : List (κ × α)) (k : κ) (v : α) : (putA kvs k v).length ≤ kvs.length + 1 := by
  unfold putA
  by_cases c : (kvs.any fun kv => decide (kv.1 = k)) = true
  · rw [if_pos c, List.length_map]; exact Nat.le_succ _
  · rw [if_neg c, List.length_append]; exact Nat.le_refl _
theorem dc_run {K : PySem.W.Frag} {own : Bool} {ti : XI} {g : XG} {tt : XT} {tk te : XE} {vs : List Nat} {σ : Sl} {H : Hp} {R : VK} (h : liftE K (wDc own ti g tt tk te vs) σ H R) : tDc (liftI K ti) (liftGw K vs g) (liftT K tt) (liftE K tk) (liftE K te) vs σ H R := by
  obtain ⟨ρ, μ, F, τ, Q, r, q, k⟩ := h
  refine ⟨ρ, μ, F, τ, _, r, q, fun items μ1 F1 τ1 H1 J e1 r1 wk q1 => ?_⟩
  obtain ⟨hz, q1⟩ := q1
  intro D hD
  have k1 := k.at e1
  have rs := r.s.mono e1.sub e1.pre
  refine ⟨fun i m H => m + i = items.length ∧ ∃ F2 τ2 μ2 vsacc acc, InC K F1 τ1 H1 D (.dK vsacc) F2 τ2 μ2 H ∧ RepK1 K F2 vsacc acc ∧ acc.length ≤ i ∧ compK g tt tk te (wipeR ρ vs) (items.drop i) acc μ2 fun ds μ2 => mkK own ds μ2 Q,
    ⟨items.length, rfl, F1, τ1, μ1, [], [], .start r1 hD, .nil, Nat.le_refl _, q1⟩, ?_⟩
  rintro i m H2 ⟨hm, F2, τ2, μ2, vsacc, acc, c2, rd2, hl2, w2⟩
  cases hx : items[i]? with
  | none =>
    have hl : items.length ≤ i := List.getElem?_eq_none_iff.mp hx
    rw [List.drop_eq_nil_of_le hl] at w2
    refine .inl ⟨wk.stop F2 τ2 μ2 H2 c2.ext c2.rep i hl, ?_⟩
    cases own with
    | false => exact c2.finF hD (.dK (.inl upd_same) (rd2.mono (Sub.new c2.nF))) k1 w2
    | true => exact c2.finO hD (show RepO K F2 τ2 (.dK vsacc) (.dK (acc.map fun p => (p.1, U.fz p.2))) from repKU_of rd2) k1 w2
  | some u =>
    have hl : i < items.length := (List.getElem?_eq_some_iff.mp hx).1
    have hd : items.drop i = u :: items.drop (i + 1) := by
      rw [List.drop_eq_getElem_cons hl]
      have : items[i] = u := (List.getElem?_eq_some_iff.mp hx).2
      rw [this]
    rw [hd] at w2
    refine .inr ⟨wk.go F2 τ2 μ2 H2 c2.ext c2.rep i u hx, fun H3 => ∃ F3 τ3 μ3 vs3 acc3, InC K F1 τ1 H1 D (.dK vs3) F3 τ3 μ3 H3 ∧ RepK1 K F3 vs3 acc3 ∧ acc3.length ≤ i + 1 ∧ compK g tt tk te (wipeR ρ vs) (items.drop (i + 1)) acc3 μ3 fun ds μ2 => mkK own ds μ2 Q,
      fun H3 h3 => ⟨m - 1, by omega, by omega, h3⟩, fun x H3 y3 => ?_⟩
    obtain ⟨F3, x3, rh3, ru3⟩ := wk.yld F2 τ2 μ2 H2 c2.ext c2.rep i u hx x H3 y3
    have c3 := c2.go x3 rh3
    have rep3 : Rep K F3 τ2 (wipeR ρ vs) μ2 (wipe σ vs) H3 := by
      refine ⟨rh3, (rs.wipe vs).mono c3.ext.sub c3.ext.pre, ?_⟩
      rw [wipeR_length, wipe_length, r.l]
    refine ⟨u, _, μ2, F3, τ2, _, rep3, ru3, w2, fun ρ4 σ4 μ4 F4 τ4 H4 x4 r4 w4 q4 => ⟨w4.trans (wipe_wipe vs), ?_⟩⟩
    have c4 := c3.go x4 r4.h
    refine ⟨ρ4, μ4, F4, τ4, _, r4, q4, fun b μ5 F5 τ5 H5 x5 r5 q5 => ?_⟩
    have c5 := c4.go x5 r5
    have rd5 := rd2.mono (x3.sub.trans (x4.sub.trans x5.sub))
    cases b with
    | false => exact iteF ⟨F5, τ5, μ5, vsacc, acc, c5, rd5, by omega, q5⟩
    | true =>
      refine iteT ⟨ρ4, μ5, F5, τ5, _, r4.at x5 r5, q5, fun z v μ6 F6 τ6 H6 x6 r6 rz q6 => ?_⟩
      have c6 := c5.go x6 r6
      refine ⟨ρ4, μ6, F6, τ6, _, r4.at (x5.trans x6) r6, q6, fun z' v' μ7 F7 τ7 H7 x7 r7 rz' q7 => ?_⟩
      have c7 := c6.go x7 r7
      cases z with
      | ptr _ => exact q7.elim
      | fz kd =>
        cases z' with
        | ptr _ => exact q7.elim
        | fz d =>
          obtain ⟨kk, hk, q7⟩ := q7
          have hlen : vsacc.length = acc.length := rd2.length
          have hp := putA_len acc kk d
          exact ⟨vsacc, kk, keyD_rep rz hk, c7.at_, by rw [hlen]; omega, F7, τ7, μ7, putK vsacc kk v', putA acc kk d, c7.put hD, (rd5.mono (x6.sub.trans x7.sub)).put rz' kk, by omega, q7⟩
theorem qe_dc {kx vx tg iter : Expr} {ifs : List Expr} {scope : Scope} {own : List (Str × Nat)} {ti : XI} {g : XG} {tt : XT} {tk te : XE} (new : Bool) (hc : X.calm = true) (hN : X.N.Nodup) (hi : QI X tg iter ti) (ok : BlkOk X.N X.env.scope scope own)
    (hg : ∀ (s : Shared) (H : Hp) (C : Addr) (cl : List (Str × Addr)) (fp : List Addr), QGw (X.blk s H scope (compEnvC scope cl C X.env) fp) (own.map (·.2)) tg g)
    (ht : ∀ (s : Shared) (H : Hp) (C : Addr) (cl : List (Str × Addr)) (fp : List Addr), QTs (X.blk s H scope (compEnvC scope cl C X.env) fp) ifs tt)
    (hk : ∀ (s : Shared) (H : Hp) (C : Addr) (cl : List (Str × Addr)) (fp : List Addr), QE (X.blk s H scope (compEnvC scope cl C X.env) fp) kx tk)
    (he : ∀ (s : Shared) (H : Hp) (C : Addr) (cl : List (Str × Addr)) (fp : List Addr), QE (X.blk s H scope (compEnvC scope cl C X.env) fp) vx te) (hs : ∀ x, foldedSetIterable iter X.env x = pure x := by intro _; rfl) :
    QE X (.DictComp kx vx [⟨tg, iter, ifs, 0⟩] scope pos) (wDc new ti g tt tk te (own.map (·.2))) := PE.mono (pe_dc hc hN hi ok hg ht hk he hs) fun _ _ _ h => dc_run h
/-- name = {..} on one line, the name a local -/
theorem sw_dict {kx vx : Expr} {gs : List Comprehension} {scope : Scope} {pos py : Pos} {y : Str} {l : Nat} {env : Env} (hk : env.scope.kind = .function) (hy : env.scope.names.lookup y = some .local)
    (hl : (py.line == pos.line) = true) (ha : (scope.names.any fun (n, k) => n == y && (k == .local || k == .cell)) = false) : swapsWith (.DictComp kx vx gs scope pos) (some (.Name y py)) l env = pure true := by
  have k1 : env.kindOf y = some .local := hy
  have b1 : env.blockKind = .function := by
    unfold Env.blockKind
    rw [hk]
    rfl
  unfold swapsWith
  simp only [b1, k1, ha, Expr.pos, hl]
  rfl
theorem qs_setDc {i : Nat} {y : Str} {py spos : Pos} {kx vx tg iter : Expr} {ifs : List Expr} {scope : Scope} {own : List (Str × Nat)} {ti : XI} {g : XG} {tt : XT} {tk te : XE} (new : Bool) (hc : X.calm = true) (hN : X.N.Nodup) (hy : X.N[i]? = some y)
    (hyl : X.env.scope.names.lookup y = some .local) (hsw : swapsWith (.DictComp kx vx [⟨tg, iter, ifs, 0⟩] scope pos) (some (.Name y py)) spos.line X.env = pure true) (hi : QI X tg iter ti) (ok : BlkOk X.N X.env.scope scope own)
    (hg : ∀ (s : Shared) (H : Hp) (C : Addr) (cl : List (Str × Addr)) (fp : List Addr), QGw (X.blk s H scope (compEnvC scope cl C X.env) fp) (own.map (·.2)) tg g)
    (ht : ∀ (s : Shared) (H : Hp) (C : Addr) (cl : List (Str × Addr)) (fp : List Addr), QTs (X.blk s H scope (compEnvC scope cl C X.env) fp) ifs tt)
    (hk : ∀ (s : Shared) (H : Hp) (C : Addr) (cl : List (Str × Addr)) (fp : List Addr), QE (X.blk s H scope (compEnvC scope cl C X.env) fp) kx tk)
    (he : ∀ (s : Shared) (H : Hp) (C : Addr) (cl : List (Str × Addr)) (fp : List Addr), QE (X.blk s H scope (compEnvC scope cl C X.env) fp) vx te) (hs : ∀ x, foldedSetIterable iter X.env x = pure x := by intro _; rfl) :
    QS X (.Assign [.Name y py] (.DictComp kx vx [⟨tg, iter, ifs, 0⟩] scope pos) spos) (wSet i (wDc new ti g tt tk te (own.map (·.2)))) where
  run := by
    rintro pins s σ H D I ⟨ρ, μ, F, τ, E, r, q, c⟩
    have h0 : tDc (liftI X.K ti) (liftGw X.K (own.map (·.2)) g) (liftT X.K tt) (liftE X.K tk) (liftE X.K te) (own.map (·.2)) σ H (fun x H1 => D.nx (σ.set i (some x)) H1) :=
      dc_run ⟨ρ, μ, F, τ, _, r, q, fun u v μ' F' τ' H' x rh ru q' => ((r.at x rh).set ru).nx (c.at x) q'⟩
    rw [exec_Assign_Name_used _ _ _ _ hsw]
    refine wpAny_bind (wpAny_standAt (wpAny_bind ?_))
    show wpAny _ X.A (do
      let _ ← comprehension (.DictComp kx vx [⟨tg, iter, ifs, 0⟩] scope pos) scope X.env (firstIterPos [⟨tg, iter, ifs, 0⟩] pos) newDict false (eval iter X.env) (some (assign (.Name y py) X.env))) _ _ s
    refine wpAny_bind (thn (dc_core (Qf := fun _ s' => SP X pins D .next s') hc hN I hi ok hg ht hk he hs h0 ?_) fun _ s' z => wpAny_pure (wpAny_pure z))
    intro L C s' m H' I' q' hn f
    show wpAny _ _ (assign (.Name y py) X.env (.ref L)) _ _ _
    refine wpAny_assign_Name (store_ok2 (v := V.ref L) I' hN hy (.inl hyl) rfl ?_ (.inr hyl))
    rintro s2 I2 ⟨a, sb, ha⟩
    obtain ⟨f0, f1, f2, f3, f4, f5⟩ := f
    have apart : C ≠ a := by
      rcases ha with z | z
      · exact z ▸ f1
      · exact fun e => f4 y a z e.symm
    refine ⟨m, hn.sameBut sb apart, fun h3 sb3 => ?_⟩
    exact ⟨_, H', I2.turned (t' := s2.toks) (fun b o hb e => (sb3.2 b hb).trans e) f0 f1 f3 f4 f5, q'⟩
end
/-! ### a def of the text, as callers need it -/
structure DefOk (P : Program) (w : World) (K : PySem.W.Frag) (mg : Str → Option Value) (base : Heap) (k : Nat) (x : Str) (ps : List Str) (sp : XSp) : Prop where
  ex : ∃ (f : Addr) (fd : FuncData), FnOk P w K mg base CX0 k f fd ps (liftSp K sp) ∧ mg x = some (.ref f) ∧ PySem.W.keepIn K (.ref f) = true ∧ Binds K fd ps []
theorem DefOk.mono {P : Program} {w : World} {K : PySem.W.Frag} {mg : Str → Option Value} {base : Heap} {j k : Nat} {x : Str} {ps : List Str} {sp : XSp} (d : DefOk P w K mg base j x ps sp) (h : j ≤ k) : DefOk P w K mg base k x ps sp := by
  obtain ⟨f, fd, G, h1, h2, h3⟩ := d.ex
  exact ⟨f, fd, G.mono h, h1, h2, h3⟩
theorem qe_def {X : Cx} {k : Nat} {ps : List Str} {sp : XSp} {x : Str} {p pos : Pos} {e : Expr} {es : List Expr} {t : XA} (G : DefOk X.prog X.w X.K X.mg X.base k x ps sp) (hr : Room k X.A) (ha : QA X (e :: es) t) (hg : Gl X x := by rfl)
    (hdb : (x == ("__debug__" : Str)) = false := by decide) (he : starEach (e :: es) X.env = (false, eval e X.env) :: starEach es X.env := by rfl) (hpl : (backTo pos (starEach es X.env)).any (·.1) = false := by rfl) :
    QE X (.Call (.Name x p) (e :: es) [] pos) (wFn sp t) := by
  obtain ⟨f, fd, G, h1, h2, h3⟩ := G.ex
  exact qe_call G hr h1 h2 h3 ha hg hdb he hpl
/-- built-in names that the text does not bind -/
def Blt (mg : Str → Option Value) (l : List Str) : Prop := ∀ x ∈ l, mg x = none
theorem _root_.L2.Room.u1 {k : Nat} {A : Around} (r : Room k A) : A.units + 1 < cLine := by have := r.un; omega
theorem _root_.L2.Room.u64 {k : Nat} {A : Around} (r : Room k A) : A.units + 64 < cLine := by have := r.un; omega
theorem _root_.L2.Room.u66 {k : Nat} {A : Around} (r : Room k A) : A.units + 66 < cLine := by have := r.un; omega
end W3
namespace W3
open PySem PySem.Spec PyProof.Rows L2
/-! ### reasoning over readings -/
/-- one turn of a list comprehension -/
def turnX (g : XG) (tt : XT) (te : XE) (ρ : Rho) (x : U) (μ : Mu) (Kt : D → Mu → Prop) (Kf : Mu → Prop) : Prop := g x ρ μ fun ρ2 μ1 => tt ρ2 μ1 fun b μ2 => match b with
  | true => te ρ2 μ2 fun u μ3 => match u with
    | .fz d => Kt d μ3
    | .ptr _ => False
  | false => Kf μ2
theorem compX_inv {α : Type} {g : XG} {tt : XT} {te : XE} {ρ : Rho} {e : α → U} {K : List D → Mu → Prop} (P : List α → List D → Mu → Prop)
    (step : ∀ x r acc μ Kt Kf, P (x :: r) acc μ → (∀ d μ', P r (acc ++ [d]) μ' → Kt d μ') → (∀ μ', P r acc μ' → Kf μ') → turnX g tt te ρ (e x) μ Kt Kf) (fin : ∀ acc μ, P [] acc μ → K acc μ) :
    ∀ (xs : List α) (acc : List D) (μ : Mu), P xs acc μ → compX g tt te ρ (xs.map e) acc μ K
  | [], acc, μ, p => fin acc μ p
  | x :: r, acc, μ, p => step x r acc μ _ _ p (fun d μ' p' => compX_inv P step fin r _ _ p') (fun μ' p' => compX_inv P step fin r _ _ p')
/-- a comprehension that changes nothing: its items by a function -/
theorem compX_pure {α : Type} {g : XG} {tt : XT} {te : XE} {ρ : Rho} {e : α → U} {K : List D → Mu → Prop} {μ : Mu} (f : α → Option D) (xs : List α)
    (step : ∀ x ∈ xs, ∀ Kt Kf, (match f x with | some d => Kt d μ | none => Kf μ) → turnX g tt te ρ (e x) μ Kt Kf) (acc : List D) (fin : K (acc ++ xs.filterMap f) μ) :
    compX g tt te ρ (xs.map e) acc μ K := by
  refine compX_inv (fun r acc' μ' => μ' = μ ∧ (∀ x ∈ r, x ∈ xs) ∧ acc' ++ r.filterMap f = acc ++ xs.filterMap f) (fun x r acc' μ' Kt Kf p ht hf => ?_) (fun acc' μ' p => ?_) xs acc μ ⟨rfl, fun _ h => h, rfl⟩
  · obtain ⟨rfl, hs, he⟩ := p
    refine step x (hs x List.mem_cons_self) Kt Kf ?_
    have hs' : ∀ y ∈ r, y ∈ xs := fun y hy => hs y (List.mem_cons_of_mem _ hy)
    cases q : f x with
    | some d =>
      refine ht d _ ⟨rfl, hs', ?_⟩
      rw [List.filterMap_cons_some q] at he
      rw [← he, List.append_assoc]
      rfl
    | none =>
      refine hf _ ⟨rfl, hs', ?_⟩
      rw [List.filterMap_cons_none q] at he
      exact he
  · obtain ⟨rfl, _, he⟩ := p
    rw [List.filterMap_nil, List.append_nil] at he
    rw [he]
    exact fin
theorem compX_map {α : Type} {g : XG} {tt : XT} {te : XE} {ρ : Rho} {e : α → U} {K : List D → Mu → Prop} {μ : Mu} (f : α → D) (xs : List α)
    (step : ∀ x ∈ xs, ∀ Kt Kf, Kt (f x) μ → turnX g tt te ρ (e x) μ Kt Kf) (fin : K (xs.map f) μ) :
    compX g tt te ρ (xs.map e) [] μ K := by
  refine compX_pure (fun x => some (f x)) xs (fun x hx Kt Kf h => step x hx Kt Kf h) [] ?_
  rw [List.nil_append, show xs.filterMap (fun x => some (f x)) = xs.map f from congrFun List.filterMap_eq_map xs]
  exact fin
theorem compX_filter {α : Type} {g : XG} {tt : XT} {te : XE} {ρ : Rho} {e : α → U} {K : List D → Mu → Prop} {μ : Mu} (p : α → Bool) (f : α → D) (xs : List α)
    (step : ∀ x ∈ xs, ∀ Kt Kf, (match p x with | true => Kt (f x) μ | false => Kf μ) → turnX g tt te ρ (e x) μ Kt Kf) (fin : K ((xs.filter p).map f) μ) :
    compX g tt te ρ (xs.map e) [] μ K := by
  refine compX_pure (fun x => if p x then some (f x) else none) xs (fun x hx Kt Kf h => step x hx Kt Kf ?_) [] ?_
  · cases q : p x with
    | true => rw [q] at h; exact h
    | false => rw [q] at h; exact h
  · rw [List.nil_append]
    have e : xs.filterMap (fun x => if p x then some (f x) else none) = (xs.filter p).map f := by
      clear step fin
      induction xs with
      | nil => rfl
      | cons x r ih =>
        cases q : p x with
        | true => rw [List.filterMap_cons_some (b := f x) (by simp [q]), List.filter_cons_of_pos (by simpa using q), List.map_cons, ih]
        | false => rw [List.filterMap_cons_none (by simp [q]), List.filter_cons_of_neg (by simp [q]), ih]
    rw [e]
    exact fin
/-- a choice by a truth value -/
theorem ifB {b : Bool} {A B : Prop} (h1 : b = true → A) (h2 : b = false → B) : (match b with | true => A | false => B) := by
  cases b
  · exact h2 rfl
  · exact h1 rfl
end W3
namespace W3
open PySem PySem.Spec PyProof.Rows L2
/-! ### more tools over readings -/
abbrev Rd (sp : XSp) (N : List Str) (t : XS) : Prop := ∀ us μ Q, sp us μ Q → t { nx := fun _ μ' => back μ.length Q (.fz .non) μ', rt := back μ.length Q } (startR N us) μ
abbrev RdRaw (sp : XSp) (N : List Str) (t : XS) : Prop := ∀ us μ Q, sp us μ Q → t { nx := fun _ μ' => Q (.fz .non) μ', rt := Q } (startR N us) μ
theorem ifT {b : Bool} {A B : Prop} : b = true → A → (match b with | true => A | false => B) := by intro h a; rw [h]; exact a
theorem ifF {b : Bool} {A B : Prop} : b = false → B → (match b with | true => A | false => B) := by intro h a; rw [h]; exact a
theorem ixN_nat {n k : Nat} (h : k < n) : ixN n (k : Int) = some k := by
  unfold ixN
  rw [if_pos (by omega), if_pos (by omega), Int.toNat_natCast]
theorem atI_ix {α : Type} {xs : List α} {k : Nat} {x : α} (h : xs[k]? = some x) : atI xs (k : Int) = some x := by
  unfold atI
  rw [ixN_nat (List.getElem?_eq_some_iff.mp h).1]
  exact h
theorem atI_map {α β : Type} {f : α → β} {xs : List α} {k : Nat} {x : α} (h : xs[k]? = some x) : atI (xs.map f) (k : Int) = some (f x) := atI_ix (by rw [List.getElem?_map, h]; rfl)
/-- a loop over items by a function, with what holds before each turn -/
theorem loop_by {α : Type} {k : Nat} {g : XG} {tb : XS} {E : XEnds} {ρ : Rho} {μ : Mu} {e : α → U} {xs : List α} (P : List α → Rho → Mu → Prop) (h0 : P xs ρ μ) (hend : ∀ ρ1 μ1, P [] ρ1 μ1 → E.nx ρ1 μ1)
    (step : ∀ x r ρ1 μ1, P (x :: r) ρ1 μ1 → ∀ T : Rho → Mu → Prop, (∀ ρ3 μ3, P r ρ3 μ3 → T ρ3 μ3) → (∀ ρ3 μ3, (μ3.take k).all (okM k) = true → P r (clean k ρ3) (μ3.take k) → T ρ3 μ3) →
      g (e x) ρ1 μ1 fun ρ2 μ2 => tb { nx := T, rt := E.rt, bk := E.nx, ct := T } ρ2 μ2) : wLoop k g tb (xs.map e) E ρ μ := by
  refine ⟨fun items ρ μ => ∃ xs : List α, items = xs.map e ∧ P xs ρ μ, ⟨xs, rfl, h0⟩, fun ρ1 μ1 ⟨ys, e1, p⟩ => ?_, fun x r ρ1 μ1 ⟨ys, e1, p⟩ => ?_⟩
  · cases ys with
    | nil => exact hend ρ1 μ1 p
    | cons _ _ => cases e1
  · cases ys with
    | nil => cases e1
    | cons y ys =>
      rw [List.map_cons] at e1
      injection e1 with e1 e2
      subst e1 e2
      exact step y ys ρ1 μ1 p _ (fun ρ3 μ3 h => .inl ⟨ys, rfl, h⟩) fun ρ3 μ3 h1 h2 => .inr ⟨h1, ys, rfl, h2⟩
/-- a while with what holds before each turn and a measure -/
theorem while_by {c : XT} {tb : XS} {E : XEnds} {ρ : Rho} {μ : Mu} (P : Nat → Rho → Mu → Prop) (m : Nat) (h0 : P m ρ μ)
    (step : ∀ m ρ1 μ1, P m ρ1 μ1 → ∀ T : Rho → Mu → Prop, (∀ m' ρ3 μ3, m' < m → P m' ρ3 μ3 → T ρ3 μ3) → (∀ m' ρ3 μ3, m' < m → (μ3.take μ.length).all (okM μ.length) = true → P m' (clean μ.length ρ3) (μ3.take μ.length) → T ρ3 μ3) →
      c ρ1 μ1 fun b μ2 => match b with
        | true => tb { nx := T, rt := E.rt, bk := E.nx, ct := T } ρ1 μ2
        | false => E.nx ρ1 μ2) : wWhile c tb E ρ μ :=
  ⟨P, ⟨m, h0⟩, fun m ρ1 μ1 p => step m ρ1 μ1 p _ (fun m' ρ3 μ3 l h => .inl ⟨m', l, h⟩) fun m' ρ3 μ3 l h1 h2 => .inr ⟨h1, m', l, h2⟩⟩
/-- items with their places -/
theorem nums_map {α : Type} (f : α → D) (xs : List α) : nums (xs.map f) = xs.zipIdx.map fun p => .fz (.tup [.int (p.2 : Int), f p.1]) := by
  unfold nums
  apply List.ext_getElem?
  intro i
  rw [List.getElem?_mapIdx, List.getElem?_map, List.getElem?_map, List.getElem?_zipIdx]
  cases xs[i]? with
  | none => rfl
  | some x => simp
theorem mem_zipIdx {α : Type} {xs : List α} {p : α × Nat} (h : p ∈ xs.zipIdx) : xs[p.2]? = some p.1 := by
  obtain ⟨x, i⟩ := p
  exact (List.mem_zipIdx_iff_getElem?.mp h)
theorem small {n : Nat} (h : n ≤ 10000) : n ≤ sizeLine := by rw [sizeLine_eq]; omega
theorem small1 {n : Nat} (h : n ≤ 10000) : n < sizeLine := by rw [sizeLine_eq]; omega
theorem decT {p : Prop} [Decidable p] {d : Bool} (h : p) : (if false = true then d else decide p) = true := by rw [if_neg (by decide)]; exact decide_eq_true h
theorem decF {p : Prop} [Decidable p] {d : Bool} (h : ¬ p) : (if false = true then d else decide p) = false := by rw [if_neg (by decide)]; exact decide_eq_false h
theorem decNT {p : Prop} [Decidable p] {d : Bool} (h : ¬ p) : (if true = true then !decide p else d) = true := by rw [if_pos rfl, decide_eq_false h]; rfl
theorem decNF {p : Prop} [Decidable p] {d : Bool} (h : p) : (if true = true then !decide p else d) = false := by rw [if_pos rfl, decide_eq_true h]; rfl
/-! a dict by a function -/
def madeK {α : Type} (kk : α → Key) (fv : α → D) (xs : List α) (acc : List (Key × D)) : List (Key × D) := xs.foldl (fun a x => putA a (kk x) (fv x)) acc
theorem look_put_some {α : Type} (kvs : List (Key × α)) (k j : Key) (v : α) : (look (putA kvs k v) j).isSome = ((look kvs j).isSome || decide (k = j)) := by
  have any : ∀ (l : List (Key × α)) (j : Key), (look l j).isSome = l.any fun kv => decide (kv.1 = j) := fun l j => by
    unfold look
    rw [Option.isSome_map]
    apply Bool.eq_iff_iff.mpr
    rw [List.find?_isSome]
    simp
  rw [any, any]
  unfold putA
  by_cases c : (kvs.any fun kv => decide (kv.1 = k)) = true
  · rw [if_pos c]
    have e : (kvs.map fun kv => if kv.1 = k then (kv.1, v) else kv).any (fun kv => decide (kv.1 = j)) = kvs.any fun kv => decide (kv.1 = j) := by
      rw [List.any_map]
      congr 1
      funext kv
      show decide ((if kv.1 = k then (kv.1, v) else kv).1 = j) = decide (kv.1 = j)
      by_cases z : kv.1 = k <;> simp [z]
    rw [e]
    by_cases z : k = j
    · subst z
      rw [c]; rfl
    · rw [decide_eq_false z, Bool.or_false]
  · rw [if_neg c, List.any_append]
    simp
theorem look_made {α : Type} (kk : α → Key) (fv : α → D) : ∀ (xs : List α) (acc : List (Key × D)) (j : Key), (look (madeK kk fv xs acc) j).isSome = ((look acc j).isSome || xs.any fun x => decide (kk x = j))
  | [], acc, j => by simp [madeK]
  | x :: r, acc, j => by
    show (look (madeK kk fv r (putA acc (kk x) (fv x))) j).isSome = _
    rw [look_made kk fv r, look_put_some, List.any_cons, Bool.or_assoc]
/-- one turn of a dict comprehension -/
def turnK (g : XG) (tt : XT) (tk te : XE) (ρ : Rho) (x : U) (μ : Mu) (Kt : Key → D → Mu → Prop) (Kf : Mu → Prop) : Prop := g x ρ μ fun ρ2 μ1 => tt ρ2 μ1 fun b μ2 => match b with
  | true => tk ρ2 μ2 fun w μ3 => te ρ2 μ3 fun u μ4 => match w, u with
    | .fz kd, .fz d => ∃ k, keyD kd = some k ∧ Kt k d μ4
    | _, _ => False
  | false => Kf μ2
theorem compK_made {α : Type} {g : XG} {tt : XT} {tk te : XE} {ρ : Rho} {e : α → U} {K : List (Key × D) → Mu → Prop} {μ : Mu} (kk : α → Key) (fv : α → D) :
    ∀ (xs : List α) (acc : List (Key × D)), (∀ x ∈ xs, ∀ Kt Kf, Kt (kk x) (fv x) μ → turnK g tt tk te ρ (e x) μ Kt Kf) → K (madeK kk fv xs acc) μ → compK g tt tk te ρ (xs.map e) acc μ K
  | [], acc, _, fin => fin
  | x :: r, acc, h, fin => h x List.mem_cons_self _ _ (compK_made kk fv r _ (fun y m => h y (List.mem_cons_of_mem _ m)) fin)
theorem unU_map {α : Type} (f : α → D) : ∀ xs : List α, unU (xs.map fun x => U.fz (f x)) = some (xs.map f)
  | [] => rfl
  | x :: r => by
    rw [List.map_cons, List.map_cons]
    simp only [unU, unU_map f r]
    rfl
theorem cut_len {α : Type} (xs : List α) (lo hi : Option Int) : (cutA xs lo hi).length ≤ xs.length := by
  unfold cutA
  rw [List.length_take, List.length_drop]
  omega
theorem cut_to {α : Type} (xs : List α) (k : Nat) : cutA xs none (some (k : Int)) = xs.take k := by
  unfold cutA
  rw [HT.sIx_nat, HT.sIx_none, List.drop_zero, Nat.sub_zero]
  by_cases h : k ≤ xs.length
  · rw [Nat.min_eq_left h]
  · rw [Nat.min_eq_right (by omega), List.take_length, List.take_of_length_le (by omega)]
theorem cut_from {α : Type} (xs : List α) (k : Nat) : cutA xs (some (k : Int)) none = xs.drop k := by
  unfold cutA
  rw [HT.sIx_nat, HT.sIx_none]
  by_cases h : k ≤ xs.length
  · rw [Nat.min_eq_left h, List.take_of_length_le (by rw [List.length_drop]; omega)]
  · rw [Nat.min_eq_right (by omega), Nat.sub_self, List.take_zero, List.drop_of_length_le (by omega)]
theorem pairs_map {α : Type} (f h : α → D) (xs : List α) : pairs (xs.map f) (xs.map h) = xs.map fun x => .fz (.tup [f x, h x]) := by
  unfold pairs
  induction xs with
  | nil => rfl
  | cons x r ih => rw [List.map_cons, List.map_cons, List.zip_cons_cons, List.map_cons, List.map_cons, ih]
theorem nd1 : [0].Nodup := by decide
/-- a loop over a range -/
theorem loop_range {k : Nat} {g : XG} {tb : XS} {E : XEnds} {ρ : Rho} {μ : Mu} {lo : Int} {n : Nat} (P : Nat → Rho → Mu → Prop) (h0 : P 0 ρ μ) (hend : ∀ ρ1 μ1, P n ρ1 μ1 → E.nx ρ1 μ1)
    (step : ∀ i ρ1 μ1, i < n → P i ρ1 μ1 → ∀ T : Rho → Mu → Prop, (∀ ρ3 μ3, P (i + 1) ρ3 μ3 → T ρ3 μ3) → (∀ ρ3 μ3, (μ3.take k).all (okM k) = true → P (i + 1) (clean k ρ3) (μ3.take k) → T ρ3 μ3) →
      g (.fz (.int (lo + (i : Int)))) ρ1 μ1 fun ρ2 μ2 => tb { nx := T, rt := E.rt, bk := E.nx, ct := T } ρ2 μ2) : wLoop k g tb (upto lo n) E ρ μ := by
  unfold upto
  refine loop_by (fun is ρ μ => ∃ i, i ≤ n ∧ is = (List.range n).drop i ∧ P i ρ μ) ⟨0, Nat.zero_le _, rfl, h0⟩ ?_ ?_
  · rintro ρ1 μ1 ⟨i, hi, e, p⟩
    have e := congrArg List.length e
    rw [List.length_drop, List.length_range] at e
    have e : 0 = n - i := e
    have : i = n := by omega
    exact hend _ _ (this ▸ p)
  · rintro x r ρ1 μ1 ⟨i, hi, e, p⟩ T k1 k2
    have hl := congrArg List.length e
    rw [List.length_drop, List.length_range, List.length_cons] at hl
    have hin : i < (List.range n).length := by rw [List.length_range]; omega
    rw [List.drop_eq_getElem_cons hin] at e
    injection e with e1 e2
    rw [List.getElem_range] at e1
    subst e1 e2
    exact step x ρ1 μ1 (by omega) p T (fun ρ3 μ3 h => k1 _ _ ⟨x + 1, by omega, rfl, h⟩) fun ρ3 μ3 h1 h2 => k2 _ _ h1 ⟨x + 1, by omega, rfl, h2⟩
theorem comp_range {g : XG} {tt : XT} {te : XE} {ρ : Rho} {K : List D → Mu → Prop} {lo : Int} {n : Nat} {acc : List D} {μ : Mu} (P : Nat → List D → Mu → Prop) (h0 : P 0 acc μ)
    (step : ∀ i acc μ Kt Kf, i < n → P i acc μ → (∀ d μ', P (i + 1) (acc ++ [d]) μ' → Kt d μ') → (∀ μ', P (i + 1) acc μ' → Kf μ') → turnX g tt te ρ (.fz (.int (lo + (i : Int)))) μ Kt Kf) (fin : ∀ acc μ, P n acc μ → K acc μ) :
    compX g tt te ρ (upto lo n) acc μ K := by
  unfold upto
  refine compX_inv (fun is acc μ => ∃ i, i ≤ n ∧ is = (List.range n).drop i ∧ P i acc μ) ?_ ?_ _ _ _ ⟨0, Nat.zero_le _, rfl, h0⟩
  · rintro x r acc μ Kt Kf ⟨i, hi, e, p⟩ k1 k2
    have hl := congrArg List.length e
    rw [List.length_drop, List.length_range, List.length_cons] at hl
    have hin : i < (List.range n).length := by rw [List.length_range]; omega
    rw [List.drop_eq_getElem_cons hin] at e
    injection e with e1 e2
    rw [List.getElem_range] at e1
    subst e1 e2
    exact step x acc μ Kt Kf (by omega) p (fun d μ' h => k1 d μ' ⟨x + 1, by omega, rfl, h⟩) fun μ' h => k2 μ' ⟨x + 1, by omega, rfl, h⟩
  · rintro acc μ ⟨i, hi, e, p⟩
    have e := congrArg List.length e
    rw [List.length_drop, List.length_range] at e
    have e : 0 = n - i := e
    have : i = n := by omega
    exact fin _ _ (this ▸ p)
end W3
namespace W3
open PySem PySem.Spec PyProof.Rows L2
/-! ### sorted of a tuple of ints -/
def rSortedT (K : PySem.W.Frag) : List V → Hp → VK → Prop := fun vs H Q => ∃ (a : Addr) (ns : List Int), vs = [V.ref a] ∧ SqT K H a (ns.map V.int) ∧
  ∀ (ms : List Int) (p : Addr), ms.Perm ns → ms.Pairwise (· ≤ ·) → H p = none → Q (.ref p) (upd H p (.lst (ms.map V.int)))
theorem cr_sortedT {X : Cx} : CallR X (.builtin "sorted") (rSortedT X.K) := by
  intro pins s σ H vs us Q I r h
  obtain ⟨a, ns, rfl, hs, q⟩ := h
  obtain ⟨its, rv, hT, hz⟩ := I.tuple hs
  rw [Vals.ref1 r]
  have hi := rv.ints
  have hz2 : its.length ≤ sizeLine := by rw [← rv.length]; exact hz
  obtain ⟨o, ho, hc, n, hd⟩ := hT
  refine Calls.call_function_entry kind_sorted plain_sorted entry_sorted (args_sorted1 _) ?_
  unfold Builtin.«sorted»
  refine wpAny_bind (m := checkCount "sorted" 1 1 _) (wpAny_pure ?_)
  refine wpAny_bind (wpAny_collect_seq a (.inr rfl) ho hc hd (fun h1 k1 => ?_) (by simpa using hz2))
  refine wpAny_bind (wpAny_newList ?_ (by simpa using hz2))
  have hoL : (h1.push (seqObj "list" its.toArray 0)).get? h1.objs.size = some (seqObj "list" its.toArray 0) := Heap.get?_push_size _ rfl
  have ok1 : HOk X.prog X.w H h1 := I.hok.kept k1
  have n1 : s.heap.get? h1.objs.size = none := by
    cases e : s.heap.get? h1.objs.size with
    | none => rfl
    | some u => exact absurd (Heap.lt_size (k1 _ _ e)) (Nat.lt_irrefl _)
  refine wpAny_bind (wpAny_holding (wpAny_call_entry slot_list_sort ⟨_, hoL, rfl⟩ entry_list_sort (SrtO.list_sort_ord SrtO.swo_int hoL hz2 (fun h2 => SrtO.ints_sortable hi h2) fun out q1 q2 => ⟨_, rfl, ?_⟩) (args_list_sort _)))
  refine wpAny_pure ⟨_, rfl, ?_⟩
  obtain ⟨k1', k2, k3⟩ := SrtO.ints_out hi q1 q2
  have hlen : ((out.map SrtO.iv).map V.int).length ≤ sizeLine := by
    rw [List.length_map, k2.length_eq]
    rw [List.length_map] at hz
    exact hz
  obtain ⟨ep, he⟩ := sortedHeap_at (vs := its) (out := out.toArray) hoL
  have old : ∀ b u, s.heap.get? b = some u → (sortedHeap (h1.push (seqObj "list" its.toArray 0)) h1.objs.size its out.toArray).get? b = some u := fun b u e => by
    have e1 := k1 b u e
    have lt := Heap.lt_size e1
    rw [sortedHeap_old (Nat.ne_of_lt lt) (by rw [size_push']; exact Nat.lt_succ_of_lt lt)]
    exact Heap.get?_push_of_some _ e1
  exact ⟨.ref _, upd H h1.objs.size (.lst ((out.map SrtO.iv).map V.int)), I.laidN (t' := s.toks) old n1 (ok1.fresh (Nat.le_refl _)) ⟨hlen, out, ep, vals_of_ints k1', he⟩, rfl, q _ _ k2 k3 (ok1.fresh (Nat.le_refl _))⟩
/-- sorted(x), ints: a list or a tuple -/
def oSortedA (own : Bool) : U → Mu → UK → Prop := fun u μ Q => ∃ ns ms : List Int, (seqD μ u = some (ns.map .int) ∨ u = .fz (.tup (ns.map .int))) ∧ ms.Perm ns ∧ ms.Pairwise (· ≤ ·) ∧ mkD own (ms.map .int) μ Q
theorem qc_sortedA {X : Cx} (own : Bool) : QC X (.builtin "sorted") (c1 (oSortedA own)) := CallR.mono (CallR.or (qc_sorted own) cr_sortedT) fun xs H R h => by
  obtain ⟨F, τ, μ, v, u, Q, rfl, rh, ru, ⟨ns, ms, e, hp, hs, q⟩, k⟩ := c1_of h
  rcases e with e | rfl
  · exact .inl ⟨F, τ, μ, [u], Q, rh, .cons ru .nil, ⟨ns, ms, e, hp, hs, q⟩, k⟩
  · obtain ⟨a, vs, rfl, ha, rd⟩ := tup_of ru
    have e2 := rd.ints
    subst e2
    refine .inr ⟨a, ns, rfl, sqT_of rh.sub ha, fun ms' p h1 h2 hp' => ?_⟩
    have e3 : ms' = ms := sorted_one (h1.trans hp.symm) h2 hs
    subst e3
    exact new_D rh k (repInts _) q p hp'
end W3
namespace W3
open PySem PySem.Spec PyProof.Rows L2
section
variable {X : Cx}
/-! ### tuples of ints, compared -/
def oLtA : X2 := fun u w μ Q => match u, w with
  | .fz (.int i), .fz (.int j) => Q (.fz (.bl (decide (i < j)))) μ
  | .fz (.tup ds), .fz (.tup es) => ∃ ns ms : List Int, ds = ns.map .int ∧ es = ms.map .int ∧ Q (.fz (.bl (HT.lexLt ns ms))) μ
  | _, _ => False
theorem qo_ltA (hu : X.A.units < cLine) : QO X (compareOp .Lt) oLtA := OpR.mono (OpR.or qo_lt (op_ltT hu)) fun x y H R ⟨F, τ, μ, u, w, Q, rh, ru, rw, q, k⟩ => by
  unfold oLtA at q
  split at q
  · exact .inl ⟨F, τ, μ, _, _, Q, rh, ru, rw, q, k⟩
  · obtain ⟨ns, ms, rfl, rfl, q⟩ := q
    obtain ⟨a, vs, rfl, ha, rd⟩ := tup_of ru
    obtain ⟨b, ws, rfl, hb, rd'⟩ := tup_of rw
    have e1 := rd.ints
    have e2 := rd'.ints
    subst e1 e2
    exact .inr ⟨a, b, ns, ms, rfl, rfl, sqT_of rh.sub ha, sqT_of rh.sub hb, k.ret rh (RepU.fz (.bl _)) q⟩
  · exact q.elim
/-! ### sorted of pairs of ints -/
def pairI (p : Int × Int) : D := .tup [.int p.1, .int p.2]
def keyH (F : Hp) : V → Int × Int
  | .ref t => match F t with
    | some (.tup [.int i, .int j]) => (i, j)
    | _ => (0, 0)
  | _ => (0, 0)
theorem key_rep {K : PySem.W.Frag} {F : Hp} {v : V} {p : Int × Int} (r : RepD K F v (pairI p)) : ∃ t, v = .ref t ∧ F t = some (.tup [.int p.1, .int p.2]) ∧ keyH F v = p := by
  cases r with
  | @tup a vs _ h r =>
    cases r with
    | cons h1 r =>
      cases r with
      | cons h2 r =>
        cases r
        cases h1
        cases h2
        refine ⟨_, rfl, h, ?_⟩
        simp only [keyH, h]
theorem keys_rep {K : PySem.W.Frag} {F : Hp} : ∀ {vs : List V} {ps : List (Int × Int)}, RepDs K F vs (ps.map pairI) → vs.map (keyH F) = ps ∧ ∀ v ∈ vs, RepD K F v (pairI (keyH F v))
  | _, [], .nil => ⟨rfl, fun v m => by cases m⟩
  | _, p :: ps, .cons h r => by
    obtain ⟨t, rfl, e1, e2⟩ := key_rep h
    obtain ⟨h1, h2⟩ := keys_rep r
    refine ⟨by rw [List.map_cons, e2, h1], fun v m => ?_⟩
    rcases List.mem_cons.mp m with rfl | m
    · rw [e2]; exact h
    · exact h2 v m
theorem reps_keys {K : PySem.W.Frag} {F : Hp} : ∀ {vs : List V}, (∀ v ∈ vs, RepD K F v (pairI (keyH F v))) → RepDs K F vs ((vs.map (keyH F)).map pairI)
  | [], _ => .nil
  | v :: vs, h => .cons (h v List.mem_cons_self) (reps_keys fun u m => h u (List.mem_cons_of_mem _ m))
def oSortedP (own : Bool) : U → Mu → UK → Prop := fun u μ Q => ∃ ps : List (Int × Int), seqD μ u = some (ps.map pairI) ∧ ∀ qs : List (Int × Int), qs.Perm ps → qs.Pairwise (fun p q => SrtO.lexB q p = false) → mkD own (qs.map pairI) μ Q
theorem qc_sortedP (own : Bool) : QC X (.builtin "sorted") (c1 (oSortedP own)) := CallR.mono cr_sortedPO fun xs H R h => by
  obtain ⟨F, τ, μ, v, u, Q, rfl, rh, ru, ⟨ps, e, q⟩, k⟩ := c1_of h
  obtain ⟨a, vs, rfl, ha, rd⟩ := seqD_rep rh ru e
  obtain ⟨e1, e2⟩ := keys_rep rd
  refine ⟨a, vs, keyH F, rfl, ha, fun x m => ?_, fun ys p h1 h2 hp => ?_⟩
  · obtain ⟨t, rfl, e3, e4⟩ := key_rep (e2 x m)
    exact ⟨t, rfl, rh.sub.tup _ _ e3⟩
  · have r2 := reps_keys (K := X.K) (F := F) (vs := ys) fun y m => e2 y (h2.perm.mem_iff.mp m)
    have p2 := h2.perm.map (keyH F)
    rw [e1] at p2
    have s2 : (ys.map (keyH F)).Pairwise (fun p q => SrtO.lexB q p = false) := List.pairwise_map.mpr (h1.imp fun z => z)
    exact new_D rh k r2 (q _ p2 s2) p hp
/-! ### max of three ints -/
theorem args_max3 (a b c : Value) : argsOk "max" ⟨[a, b, c], []⟩ := by unfold argsOk; kernel_rfl
end
section
variable {prog : Program} {w : World} {A : Around} {E : Value → Shared → Prop} {s : Shared}
theorem max_three {a b c : Int} {t u v : Tok} {Q : Value → Shared → Prop} (hh : A.handled = none)
    (h : ∀ (h' : Heap) (tk : Nat) (M : Int) (tm : Tok), (∀ c o, s.heap.get? c = some o → h'.get? c = some o) → M ∈ [a, b, c] → (∀ y ∈ [a, b, c], y ≤ M) → Q (.int M tm) { s with heap := h', toks := tk }) :
    wpAny (model prog w) A (call (.builtin "max") [.int a t, .int b u, .int c v]) Q E s := by
  have hname : (toString "max" ++ toString ".loop" : String) = "max.loop" := by decide
  refine call_function_tree F.kind_max F.plain_max F.entry_max (args_max3 _ _ _) ?_
  show wpAny _ A.in1 (Builtin.Builtins.bindParams "max" ["key", "default"] 0 ⟨[], []⟩ >>= _) _ _ s
  refine wpAny_bind (wpAny_of_eq (show Builtin.Builtins.bindParams "max" ["key", "default"] 0 ⟨[], []⟩ = pure [none, none] from rfl) ?_)
  show wpAny _ A.in1 (newTuple [.int a t, .int b u, .int c v] >>= _) _ _ s
  refine wpAny_bind (wpAny_newObj_type ?_)
  have hT : (s.heap.push { cls := .type "tuple", data := .seq #[.int a t, .int b u, .int c v] }).IsTuple s.heap.objs.size (intItems #[(a, t), (b, u), (c, v)]) := ⟨_, Heap.get?_push_size _ rfl, rfl, 0, by simp [intItems]⟩
  refine wpAny_bind (wpAny_pyIter_tuple hT ?_)
  refine wpAny_bind (wpAny_newObj_type ?_)
  rw [hname]
  have hsz : (s.heap.push { cls := .type "tuple", data := .seq #[.int a t, .int b u, .int c v] }).objs.size = s.heap.objs.size + 1 := Heap.size_push ..
  have W := Walks.tuple (prog := prog) (w := w) (A := A.in1) hh (s.heap.push { cls := .type "tuple", data := .seq #[.int a t, .int b u, .int c v] }).objs.size s.heap.objs.size (by rw [hsz]; exact Nat.ne_of_lt (Nat.lt_succ_self _)) (intItems #[(a, t), (b, u), (c, v)])
  refine wpAny_pure ⟨plainId_quiet F.plain_max_loop _, codeAny_max_loop_first W _ (CmpOf.ints_gt (numAt #[(a, t), (b, u), (c, v)]) (fun _ _ => intItems_at)) ((s.heap.push { cls := .type "tuple", data := .seq #[.int a t, .int b u, .int c v] }).push { cls := .type "tuple_iterator", data := .fields #[.ref s.heap.objs.size, .int 0 0] }).objs.size ?_ (by simp [intItems]) ?_ (Heap.get?_push_size _ rfl) fun r h' tk hP hk => ?_⟩
  · intro hm
    simp only [Heap.size_push, List.mem_cons, List.not_mem_nil, or_false] at hm
    rcases hm with e | e
    · exact absurd (show (s.heap.objs.size + 1 + 1 : Nat) = s.heap.objs.size + 1 from e) (by omega)
    · exact absurd (show (s.heap.objs.size + 1 + 1 : Nat) = s.heap.objs.size from e) (by omega)
  · exact W.frame _ _ _ ⟨⟨_, Heap.get?_push_size _ rfl, rfl, rfl⟩, hT.push _⟩ fun b _ o e => Heap.get?_push_of_some _ e
  · obtain ⟨tm, rfl⟩ := intItems_at hP
    have h3 : (intItems #[(a, t), (b, u), (c, v)]).size - 1 = 2 := by simp [intItems]
    rw [h3]
    obtain ⟨b1, b2⟩ := argBest_gt (numAt #[(a, t), (b, u), (c, v)]) 2
    generalize argBest (fun i j => decide (numAt #[(a, t), (b, u), (c, v)] i > numAt #[(a, t), (b, u), (c, v)] j)) 2 = k at b1 b2 ⊢
    have n0 : numAt #[(a, t), (b, u), (c, v)] 0 = a := rfl
    have n1 : numAt #[(a, t), (b, u), (c, v)] 1 = b := rfl
    have n2 : numAt #[(a, t), (b, u), (c, v)] 2 = c := rfl
    refine h h' tk _ tm (fun p o e => ?_) ?_ fun y m => ?_
    · have lt := Heap.lt_size e
      refine hk p o (fun z => ?_) (fun z => ?_) (Heap.get?_push_of_some _ (Heap.get?_push_of_some _ (Heap.get?_push_of_some _ e)))
      · simp only [Heap.size_push, List.mem_cons, List.not_mem_nil, or_false] at z
        subst z; exact Nat.not_lt.mpr (Nat.le_succ _) lt
      · simp only [Heap.size_push] at z
        subst z; exact Nat.not_lt.mpr (Nat.le_trans (Nat.le_succ _) (Nat.le_succ _)) lt
    · match k, b1 with
      | 0, _ => rw [n0]; simp
      | 1, _ => rw [n1]; simp
      | 2, _ => rw [n2]; simp
    · have z0 := b2 0 (by omega)
      have z1 := b2 1 (by omega)
      have z2 := b2 2 (by omega)
      rw [n0] at z0
      rw [n1] at z1
      rw [n2] at z2
      rcases List.mem_cons.mp m with rfl | m
      · exact z0
      · rcases List.mem_cons.mp m with rfl | m
        · exact z1
        · rw [List.mem_singleton] at m
          rw [m]; exact z2
end
section
variable {X : Cx}
theorem call_max3 (hc : X.calm = true) : CallR X (.builtin "max") (fun xs H Q => ∃ i j k, xs = [.int i, .int j, .int k] ∧ ∀ M, M ∈ [i, j, k] → (∀ y ∈ [i, j, k], y ≤ M) → Q (.int M) H) := by
  intro pins s σ H xs us Q I r h
  obtain ⟨i, j, k, rfl, q⟩ := h
  cases r with
  | cons r1 r =>
    obtain ⟨u, w', rfl, r2, r3⟩ := vals2 r
    obtain ⟨t1, rfl⟩ := r1
    obtain ⟨t2, rfl⟩ := r2
    obtain ⟨t3, rfl⟩ := r3
    exact max_three (I.ok.hd hc) fun h' tk M tm kp h1 h2 => ⟨.int M, H, I.kept kp, ⟨tm, rfl⟩, q M h1 h2⟩
/-- a module's whole number -/
def GInt (mg : Str → Option Value) (x : Str) (i : Int) : Prop := ∃ t, mg x = some (.int i t)
theorem qe_globI {x : Str} {i : Int} {pos : Pos} (C : GInt X.mg x i) (hg : Gl X x := by rfl) (hd : (x == ("__debug__" : Str)) = false := by decide) : QE X (.Name x pos) (wC (.int i)) := by
  obtain ⟨t, e⟩ := C
  exact PE.mono (pe_glob (v := .int i) hg e ⟨t, rfl⟩ hd) fun σ H R ⟨ρ, μ, F, τ, Q, r, q, k⟩ => k _ _ μ F τ H (.refl _ _ _) r.h (RepU.fz (.int _)) q
/-- three arguments -/
def c3 (o : U → U → U → Mu → UK → Prop) : XC := fun us μ Q => match us with
  | [u, w, z] => o u w z μ Q
  | _ => False
def oMax3 : U → U → U → Mu → UK → Prop := fun u w z μ Q => match u, w, z with
  | .fz (.int i), .fz (.int j), .fz (.int k) => Q (.fz (.int (max i (max j k)))) μ
  | _, _, _ => False
theorem qc_max3 (hc : X.calm = true) : QC X (.builtin "max") (c3 oMax3) := CallR.mono (call_max3 hc) fun xs H R h => by
  obtain ⟨F, τ, μ, us, Q, rh, ru, q, k⟩ := h
  unfold c3 at q
  split at q
  · cases ru with
    | cons r1 ru =>
      cases ru with
      | cons r2 ru =>
        cases ru with
        | cons r3 ru =>
          cases ru
          unfold oMax3 at q
          split at q
          · refine ⟨_, _, _, by rw [int_of r1, int_of r2, int_of r3], fun M h1 h2 => ?_⟩
            rename_i i j l
            have z1 := h2 i (by simp)
            have z2 := h2 j (by simp)
            have z3 := h2 l (by simp)
            have e : M = max i (max j l) := by
              simp only [List.mem_cons, List.not_mem_nil, or_false] at h1
              omega
            rw [e]
            exact k.ret rh (RepU.fz (.int _)) q
          · exact q.elim
  · exact q.elim
end
end W3
namespace W3
open PySem PySem.Spec PyProof.Rows L2
/-! ### tuples of ints and texts, compared -/
def oneM : D → D → Prop
  | .int _, .int _ => True
  | .str _, .str _ => True
  | _, _ => False
def eqM : D → D → Bool
  | .int i, .int j => decide (i = j)
  | .str x, .str y => x == y
  | _, _ => false
def ltM : D → D → Bool
  | .int i, .int j => decide (i < j)
  | .str x, .str y => decide (x.cps.toList < y.cps.toList)
  | _, _ => false
/-- the same kind at every place that both have -/
def oneMs : List D → List D → Prop
  | d :: ds, e :: es => oneM d e ∧ oneMs ds es
  | _, _ => True
def lexM : List D → List D → Bool
  | [], es => !es.isEmpty
  | _ :: _, [] => false
  | d :: ds, e :: es => if eqM d e = true then lexM ds es else ltM d e
theorem oneMs_at : ∀ {ds es : List D} {j : Nat} {d e : D}, oneMs ds es → ds[j]? = some d → es[j]? = some e → oneM d e
  | [], _, j, _, _, _, h, _ => by simp at h
  | _ :: _, [], j, _, _, _, _, h => by simp at h
  | d :: ds, e :: es, 0, _, _, h, h1, h2 => by
    simp at h1 h2
    subst h1 h2
    exact h.1
  | d :: ds, e :: es, j + 1, _, _, h, h1, h2 => oneMs_at (j := j) h.2 (by simpa using h1) (by simpa using h2)
theorem lexAt_shift {e r e' r' : Nat → Bool} {z : Bool} : ∀ {k i j : Nat}, (∀ m, m < k → e (i + m) = e' (j + m)) → (∀ m, m < k → r (i + m) = r' (j + m)) → Ob.lexAt e r z i k = Ob.lexAt e' r' z j k
  | 0, _, _, _, _ => rfl
  | k + 1, i, j, h, h' => by
    rw [Ob.lexAt_succ, Ob.lexAt_succ]
    have e0 := h 0 (Nat.succ_pos _)
    have r0 := h' 0 (Nat.succ_pos _)
    simp only [Nat.add_zero] at e0 r0
    rw [e0, r0, lexAt_shift (k := k) (i := i + 1) (j := j + 1) (fun m hm => by
      have z := h (m + 1) (Nat.succ_lt_succ hm)
      rw [show i + 1 + m = i + (m + 1) by omega, show j + 1 + m = j + (m + 1) by omega]; exact z) (fun m hm => by
      have z := h' (m + 1) (Nat.succ_lt_succ hm)
      rw [show i + 1 + m = i + (m + 1) by omega, show j + 1 + m = j + (m + 1) by omega]; exact z)]
theorem lexAt_M : ∀ (ds es : List D), Ob.lexAt (fun j => eqM (ds.getD j .non) (es.getD j .non)) (fun j => ltM (ds.getD j .non) (es.getD j .non)) (decide (ds.length < es.length)) 0 (min ds.length es.length) = lexM ds es
  | [], es => by
    cases es <;> simp [Ob.lexAt_zero, lexM]
  | d :: ds, [] => by simp [Ob.lexAt_zero, lexM]
  | d :: ds, e :: es => by
    have ih := lexAt_M ds es
    have hm : min (d :: ds).length (e :: es).length = min ds.length es.length + 1 := by
      simp only [List.length_cons]; omega
    have hz : decide ((d :: ds).length < (e :: es).length) = decide (ds.length < es.length) := by
      simp only [List.length_cons]; congr 1; simp
    rw [hm, hz, Ob.lexAt_succ, lexM, ← ih]
    simp only [List.getD_cons_zero]
    congr 1
    exact lexAt_shift (fun m _ => by rw [show (0 + 1 + m : Nat) = m + 1 by omega, Nat.zero_add, List.getD_cons_succ, List.getD_cons_succ])
      (fun m _ => by rw [show (0 + 1 + m : Nat) = m + 1 by omega, Nat.zero_add, List.getD_cons_succ, List.getD_cons_succ])
section
variable {X : Cx}
def rLtM (K : PySem.W.Frag) : R2 := fun x y H Q => ∃ a b vs ws ds es, x = .ref a ∧ y = .ref b ∧ SqT K H a vs ∧ SqT K H b ws ∧ (∃ F, RepDs K F vs ds ∧ RepDs K F ws es) ∧ oneMs ds es ∧ Q (.bl (lexM ds es)) H
theorem lt_strRc {A : Around} {s : Shared} (x y : Str) (t u : Tok) : Ob.RcOp .Lt A s (.str x t) (.str y u) (decide (x.cps.toList < y.cps.toList)) := fun _ _ _ _ h => PyProof.Rows.lt_str h
theorem op_ltM (hu : X.A.units < cLine) : OpR X (compareOp .Lt) (rLtM X.K) := by
  intro pins s σ H x y v u Q I rx ry h
  obtain ⟨a, b, vs, ws, ds, es, rfl, rfl, ha, hb, ⟨F, rd, re⟩, om, q⟩ := h
  cases rx
  cases ry
  obtain ⟨its, r1, p1, _⟩ := I.tuple ha
  obtain ⟨its2, r2, p2, _⟩ := I.tuple hb
  have e1 : its.toArray.size = ds.length := by rw [List.size_toArray, ← r1.length]; exact rd.length
  have e2 : its2.toArray.size = es.length := by rw [List.size_toArray, ← r2.length]; exact re.length
  have at1 : ∀ {j : Nat} {vs : List V} {its : List Value} {ds : List D}, Vals vs its → RepDs X.K F vs ds → (h : j < its.toArray.size) → ∃ d v, ds[j]? = some d ∧ RelV v its.toArray[j] ∧ RepD X.K F v d := by
    intro j vs its ds r rd h
    have h' : j < ds.length := by
      have z1 := r.length
      have z2 := rd.length
      rw [List.size_toArray] at h
      omega
    obtain ⟨v, ev, rv⟩ := rd.get (List.getElem?_eq_getElem h')
    obtain ⟨w, ew, rw'⟩ := r.get ev
    refine ⟨_, v, List.getElem?_eq_getElem h', ?_, rv⟩
    have z : its[j]? = some its.toArray[j] := by
      rw [List.getElem_toArray, List.getElem?_eq_getElem]
    rw [z] at ew
    cases ew
    exact rw'
  have R := Ob.RcOp.tuples_lt (A := X.A) (s := s) (e := fun j => eqM (ds.getD j .non) (es.getD j .non)) (r := fun j => ltM (ds.getD j .non) (es.getD j .non)) p1 p2 hu (fun j h1 h2 => by
    obtain ⟨d, v, ed, rv, rd'⟩ := at1 r1 rd h1
    obtain ⟨e, w, ee, rw', re'⟩ := at1 r2 re h2
    have o := oneMs_at om ed ee
    simp only [List.getD_eq_getElem?_getD, ed, ee, Option.getD_some]
    generalize its.toArray[j] = x1 at rv
    generalize its2.toArray[j] = x2 at rw'
    unfold oneM at o
    split at o
    · cases rd'
      cases re'
      obtain ⟨t, rfl⟩ := rv
      obtain ⟨t', rfl⟩ := rw'
      rename_i i k
      have z : (i == k) = decide (i = k) := by
        by_cases q : i = k
        · rw [decide_eq_true q]; exact beq_iff_eq.mpr q
        · rw [decide_eq_false q]; exact beq_eq_false_iff_ne.mpr q
      rw [eqM, ← z]
      exact SeqAt.EqAt.int_int _ _ _ _
    · cases rd'
      cases re'
      obtain ⟨t, rfl⟩ := rv
      obtain ⟨t', rfl⟩ := rw'
      exact SeqAt.EqAt.str_str _ _ _ _
    · exact o.elim) (fun j h1 h2 _ => by
    obtain ⟨d, v, ed, rv, rd'⟩ := at1 r1 rd h1
    obtain ⟨e, w, ee, rw', re'⟩ := at1 r2 re h2
    have o := oneMs_at om ed ee
    simp only [List.getD_eq_getElem?_getD, ed, ee, Option.getD_some]
    generalize its.toArray[j] = x1 at rv
    generalize its2.toArray[j] = x2 at rw'
    unfold oneM at o
    split at o
    · cases rd'
      cases re'
      obtain ⟨t, rfl⟩ := rv
      obtain ⟨t', rfl⟩ := rw'
      exact Ob.RcOp.lt_int _ _ _ _
    · cases rd'
      cases re'
      obtain ⟨t, rfl⟩ := rv
      obtain ⟨t', rfl⟩ := rw'
      exact lt_strRc _ _ _ _
    · exact o.elim)
  rw [e1, e2, lexAt_M] at R
  have z : wpAny (model X.prog X.w) X.A (compareOp .Lt (.ref a) (.ref b)) (EP X pins σ Q) X.xe s := R X.prog X.w X.xe (EP X pins σ Q) ⟨.bl _, H, I, rfl, q⟩
  exact z
def oLtM : X2 := fun u w μ Q => match u, w with
  | .fz (.int i), .fz (.int j) => Q (.fz (.bl (decide (i < j)))) μ
  | .fz (.tup ds), .fz (.tup es) => oneMs ds es ∧ Q (.fz (.bl (lexM ds es))) μ
  | _, _ => False
theorem qo_ltM (hu : X.A.units < cLine) : QO X (compareOp .Lt) oLtM := OpR.mono (OpR.or qo_lt (op_ltM hu)) fun x y H R ⟨F, τ, μ, u, w, Q, rh, ru, rw, q, k⟩ => by
  unfold oLtM at q
  split at q
  · exact .inl ⟨F, τ, μ, _, _, Q, rh, ru, rw, q, k⟩
  · obtain ⟨om, q⟩ := q
    obtain ⟨a, vs, rfl, ha, rd⟩ := tup_of ru
    obtain ⟨b, ws, rfl, hb, rd'⟩ := tup_of rw
    exact .inr ⟨a, b, vs, ws, _, _, rfl, rfl, sqT_of rh.sub ha, sqT_of rh.sub hb, ⟨F, rd, rd'⟩, om, k.ret rh (RepU.fz (.bl _)) q⟩
  · exact q.elim
end
end W3
namespace W3
open PySem PySem.Spec PyProof.Rows L2 PyProof.Rows.G
/-! ### sorted of tuples of ints and texts -/
def keyV : V → Int ⊕ List Nat
  | .int i => .inl i
  | .str x => .inr x.cps.toList
  | _ => .inl 0
def okV (shape : Nat → Bool) : Nat → List V → Prop
  | _, [] => True
  | i, .int _ :: r => shape i = false ∧ okV shape (i + 1) r
  | i, .str _ :: r => shape i = true ∧ okV shape (i + 1) r
  | _, _ :: _ => False
theorem items_of {shape : Nat → Bool} : ∀ {us : List V} {its : List Value} {i : Nat}, okV shape i us → Vals us its → tupItems shape i its = some (us.map keyV)
  | [], _, _, _, .nil => rfl
  | .int k :: us, _, i, h, .cons r t => by
    obtain ⟨tk, rfl⟩ := r
    rw [tupItems, h.1, if_neg Bool.false_ne_true, items_of h.2 t]
    rfl
  | .str k :: us, _, i, h, .cons r t => by
    obtain ⟨tk, rfl⟩ := r
    rw [tupItems, h.1, if_pos rfl, items_of h.2 t]
    rfl
def kM (H : Hp) : V → List (Int ⊕ List Nat)
  | .ref t => match H t with
    | some (.tup us) => us.map keyV
    | _ => []
  | _ => []
def rSortedM (K : PySem.W.Frag) : List V → Hp → VK → Prop := fun vs H Q => ∃ (shape : Nat → Bool) (a : Addr) (xs : List V), vs = [V.ref a] ∧ SqL K H a xs ∧
  (∀ x ∈ xs, ∃ t us, x = V.ref t ∧ H t = some (.tup us) ∧ us ≠ [] ∧ okV shape 0 us) ∧
  ∀ ys p, ys.Perm xs → ys.Pairwise (fun x y => lexLt itemOrd (kM H y) (kM H x) = false) → H p = none → Q (.ref p) (upd H p (.lst ys))
theorem tups_all {h : Heap} {shape : Nat → Bool} : ∀ {vs : List Value}, (∀ v ∈ vs, ∃ f, TupOf h shape v f) → ∃ fs, TupsOf h shape vs fs
  | [], _ => ⟨[], .nil⟩
  | v :: vs, h => by
    obtain ⟨f, hf⟩ := h v List.mem_cons_self
    obtain ⟨fs, hfs⟩ := tups_all fun u m => h u (List.mem_cons_of_mem _ m)
    exact ⟨f :: fs, .cons hf hfs⟩
theorem cr_sortedM {X : Cx} : CallR X (.builtin "sorted") (rSortedM X.K) := by
  intro pins s σ H vs us Q I r h
  obtain ⟨shape, a, xs, rfl, hs, hx, q⟩ := h
  obtain ⟨its, rv, hl, hz⟩ := I.list hs
  obtain ⟨u, rfl, ru⟩ := vals1 r
  obtain rfl : u = Value.ref a := ru
  obtain ⟨e1, e2⟩ := refs_back rv fun x m => by
    obtain ⟨t, _, e, _⟩ := hx x m
    exact ⟨t, e⟩
  have key : ∀ v ∈ its, tupKeyC s.heap shape v = some (kM H (backV v)) ∧ ∃ f, TupOf s.heap shape v f := fun v hv => by
    obtain ⟨t, rfl⟩ := e2 v hv
    have hm : V.ref t ∈ xs := by rw [e1]; exact List.mem_map.mpr ⟨_, hv, rfl⟩
    obtain ⟨t', us, e, ht, hne, ok⟩ := hx _ hm
    cases e
    obtain ⟨_, its2, r2, o, ho, hc, n, hd⟩ := I.hok _ _ ht
    have it := items_of ok r2
    constructor
    · have e3 : isTupObj s.heap (.ref t) = true := by
        simp only [isTupObj, ho, hc]; rfl
      unfold tupKeyC
      rw [if_pos e3]
      simp only [tupKey, ho, hd, kM, backV, ht]
      exact it
    · cases us with
      | nil => exact absurd rfl hne
      | cons u us =>
        cases r2 with
        | @cons _ f _ its3 r1 r3 =>
          refine ⟨f, t, o, _, n, rfl, ho, hc, hd, rfl, fun e => ?_, fun e => ?_⟩
          · cases u with
            | int k => obtain ⟨tk, rfl⟩ := r1; exact ⟨_, _, rfl⟩
            | str k => rw [ok.1] at e; cases e
            | _ => exact ok.elim
          · cases u with
            | str k => obtain ⟨tk, rfl⟩ := r1; exact ⟨_, _, rfl⟩
            | int k => rw [ok.1] at e; cases e
            | _ => exact ok.elim
  obtain ⟨fs, hfs⟩ := tups_all fun v hv => (key v hv).2
  refine PyProof.Rows.G.sorted_tups (shape := shape) (vs := its) (fs := fs) hl.isList hfs (fun v hv => ⟨_, (key v hv).1⟩) (by rw [← rv.length]; exact hz) fun st' hp hso _ => ?_
  have hp1 : (arrOf st').toList.Perm (its.zip its) := by rw [← pairsOf_toList]; exact hp.toList
  have hmem : ∀ p ∈ (arrOf st').toList, p.1 = p.2 ∧ p.2 ∈ its := fun p hp' => by
    obtain ⟨e, m⟩ := mem_zip_self (hp1.mem_iff.mp hp')
    exact ⟨e, by first | exact m | exact e ▸ m⟩
  have hp2 : ((arrOf st').map (·.2)).toList.Perm its := by
    have z := hp1.map Prod.snd
    rw [List.map_snd_zip (Nat.le_refl _)] at z
    rw [Array.toList_map]
    exact z
  obtain ⟨ep, he'⟩ := PyProof.Rows.sortedAll_at s.heap its ((arrOf st').map (·.2))
  have h3 : ∀ u ∈ ((arrOf st').map (·.2)).toList, ∃ a, u = Value.ref a := fun u hu => e2 u (hp2.mem_iff.mp hu)
  have hp3 := hp2.map backV
  rw [← e1] at hp3
  have hso' : (((arrOf st').map (·.2)).toList.map backV).Pairwise (fun x y => lexLt itemOrd (kM H y) (kM H x) = false) := by
    rw [List.pairwise_map, Array.toList_map, List.pairwise_map, List.pairwise_iff_getElem]
    intro i j hi hj hij
    have sz : (arrOf st').size = (pairsOf its).size := by
      have z := hp.toList.length_eq; simpa using z
    have z := hso i j (Nat.le_of_lt hij) (by rw [← sz]; simpa using hj)
    have kk : ∀ k (hk : k < (arrOf st').toList.length), KK (tupKindC s.heap shape) (arrOf st') k = kM H (backV ((arrOf st').toList[k]).2) := fun k hk => by
      obtain ⟨ea, ma⟩ := hmem _ (List.getElem_mem hk)
      have hk' : k < (arrOf st').size := by simpa using hk
      have e5 : (arrOf st')[k]? = some ((arrOf st').toList[k]) := by
        rw [Array.getElem?_eq_getElem hk']; simp
      unfold KK
      rw [e5]
      show (tupKeyC s.heap shape _).getD [] = _
      rw [ea, (key _ ma).1]
      rfl
    rw [kk i hi, kk j hj] at z
    exact z
  have hlen : (((arrOf st').map (·.2)).toList.map backV).length ≤ sizeLine := by
    rw [hp3.length_eq]; exact hz
  exact ⟨.ref _, upd H (s.heap.objs.size + 1) (.lst (((arrOf st').map (·.2)).toList.map backV)), I.laid (t' := s.toks) (fun _ _ => PyProof.Rows.sortedAll_old) (Nat.le_succ _) ⟨hlen, _, ep, vals_back h3, he'⟩, rfl, q _ _ hp3 hso' (I.hok.fresh (Nat.le_succ _))⟩
/-! ### as data -/
def itemD : D → Int ⊕ List Nat
  | .int i => .inl i
  | .str x => .inr x.cps.toList
  | _ => .inl 0
def okD (shape : Nat → Bool) : Nat → List D → Prop
  | _, [] => True
  | i, .int _ :: r => shape i = false ∧ okD shape (i + 1) r
  | i, .str _ :: r => shape i = true ∧ okD shape (i + 1) r
  | _, _ :: _ => False
def rdV : V → D
  | .int i => .int i
  | .str x => .str x
  | _ => .non
theorem ok_rep {K : PySem.W.Frag} {F : Hp} {shape : Nat → Bool} : ∀ {ds : List D} {vs : List V} {i : Nat}, okD shape i ds → RepDs K F vs ds → okV shape i vs ∧ vs.map rdV = ds ∧ vs.map keyV = ds.map itemD
  | [], _, _, _, .nil => ⟨trivial, rfl, rfl⟩
  | .int k :: ds, _, i, h, .cons r t => by
    cases r
    obtain ⟨h1, h2, h3⟩ := ok_rep h.2 t
    exact ⟨⟨h.1, h1⟩, by rw [List.map_cons, h2]; rfl, by rw [List.map_cons, h3]; rfl⟩
  | .str k :: ds, _, i, h, .cons r t => by
    cases r
    obtain ⟨h1, h2, h3⟩ := ok_rep h.2 t
    exact ⟨⟨h.1, h1⟩, by rw [List.map_cons, h2]; rfl, by rw [List.map_cons, h3]; rfl⟩
theorem lexM_key {shape : Nat → Bool} : ∀ {ds es : List D} {i : Nat}, okD shape i ds → okD shape i es → lexM ds es = lexLt itemOrd (ds.map itemD) (es.map itemD)
  | [], [], _, _, _ => rfl
  | [], _ :: _, _, _, _ => rfl
  | _ :: _, [], _, _, _ => rfl
  | .int a :: ds, .int b :: es, i, h, h' => by
    have ih := lexM_key h.2 h'.2
    by_cases e : a = b
    · subst e
      rw [List.map_cons, List.map_cons, lex_self (O := itemOrd), ← ih]
      simp [lexM, eqM]
    · rw [List.map_cons, List.map_cons, lex_diff (O := itemOrd) (x := itemD (.int a)) (y := itemD (.int b)) (fun z => e (Sum.inl.inj z))]
      simp only [lexM, eqM, decide_eq_true_eq, if_neg e]
      rfl
  | .str a :: ds, .str b :: es, i, h, h' => by
    have ih := lexM_key h.2 h'.2
    by_cases e : a = b
    · subst e
      rw [List.map_cons, List.map_cons, lex_self (O := itemOrd), ← ih]
      simp [lexM, eqM]
    · have hne : a.cps.toList ≠ b.cps.toList := fun hl => e (by
        have hc : a.cps = b.cps := Array.toList_inj.mp hl
        cases a; cases b
        simp only [Str.mk.injEq]
        exact hc)
      rw [List.map_cons, List.map_cons, lex_diff (O := itemOrd) (x := itemD (.str a)) (y := itemD (.str b)) (fun z => hne (Sum.inr.inj z))]
      simp only [lexM, eqM, beq_iff_eq, if_neg e]
      rfl
  | .int _ :: _, .str _ :: _, _, h, h' => by have z := h.1.symm.trans h'.1; cases z
  | .str _ :: _, .int _ :: _, _, h, h' => by have z := h.1.symm.trans h'.1; cases z
def backM (F : Hp) : V → List D
  | .ref t => match F t with
    | some (.tup vs) => vs.map rdV
    | _ => []
  | _ => []
theorem backM_rep {K : PySem.W.Frag} {F : Hp} {shape : Nat → Bool} {v : V} {ds : List D} (ok : okD shape 0 ds) (r : RepD K F v (.tup ds)) : ∃ t vs, v = .ref t ∧ F t = some (.tup vs) ∧ backM F v = ds ∧ okV shape 0 vs ∧ vs.length = ds.length ∧ vs.map keyV = ds.map itemD := by
  cases r with
  | @tup a vs _ h r =>
    obtain ⟨h1, h2, h3⟩ := ok_rep ok r
    exact ⟨a, vs, rfl, h, by simp only [backM, h]; exact h2, h1, r.length, h3⟩
theorem backs_rep {K : PySem.W.Frag} {F : Hp} {shape : Nat → Bool} : ∀ {vs : List V} {dss : List (List D)}, (∀ ds ∈ dss, ds ≠ [] ∧ okD shape 0 ds) → RepDs K F vs (dss.map .tup) → vs.map (backM F) = dss ∧ ∀ v ∈ vs, backM F v ∈ dss ∧ RepD K F v (.tup (backM F v))
  | _, [], _, .nil => ⟨rfl, fun v m => by cases m⟩
  | _, d :: dss, ok, .cons h r => by
    obtain ⟨t, vs, rfl, e1, e2, _⟩ := backM_rep (ok d List.mem_cons_self).2 h
    obtain ⟨h1, h2⟩ := backs_rep (fun ds m => ok ds (List.mem_cons_of_mem _ m)) r
    refine ⟨by rw [List.map_cons, e2, h1], fun v m => ?_⟩
    rcases List.mem_cons.mp m with rfl | m
    · rw [e2]; exact ⟨List.mem_cons_self, h⟩
    · exact ⟨List.mem_cons_of_mem _ (h2 v m).1, (h2 v m).2⟩
theorem reps_backs {K : PySem.W.Frag} {F : Hp} : ∀ {vs : List V}, (∀ v ∈ vs, RepD K F v (.tup (backM F v))) → RepDs K F vs ((vs.map (backM F)).map .tup)
  | [], _ => .nil
  | v :: vs, h => .cons (h v List.mem_cons_self) (reps_backs fun u m => h u (List.mem_cons_of_mem _ m))
/-- sorted(x): a list of tuples of ints and texts, of one shape -/
def oSortedM (own : Bool) : U → Mu → UK → Prop := fun u μ Q => ∃ (shape : Nat → Bool) (dss : List (List D)), seqD μ u = some (dss.map .tup) ∧ (∀ ds ∈ dss, ds ≠ [] ∧ okD shape 0 ds) ∧
  ∀ ess : List (List D), ess.Perm dss → ess.Pairwise (fun p q => lexM q p = false) → mkD own (ess.map .tup) μ Q
theorem qc_sortedM {X : Cx} (own : Bool) : QC X (.builtin "sorted") (c1 (oSortedM own)) := CallR.mono cr_sortedM fun xs H R h => by
  obtain ⟨F, τ, μ, v, u, Q, rfl, rh, ru, ⟨shape, dss, e, ok, q⟩, k⟩ := c1_of h
  obtain ⟨a, vs, rfl, ha, rd⟩ := seqD_rep rh ru e
  obtain ⟨e1, e2⟩ := backs_rep ok rd
  have km : ∀ x ∈ vs, kM H x = (backM F x).map itemD ∧ okD shape 0 (backM F x) := fun x m => by
    obtain ⟨m1, r1⟩ := e2 x m
    have ok1 := (ok _ m1).2
    obtain ⟨t, us, rfl, e3, _, _, _, e5⟩ := backM_rep ok1 r1
    exact ⟨by simp only [kM, rh.sub.tup _ _ e3]; exact e5, ok1⟩
  refine ⟨shape, a, vs, rfl, ha, fun x m => ?_, fun ys p h1 h2 hp => ?_⟩
  · obtain ⟨m1, r1⟩ := e2 x m
    obtain ⟨ne, ok1⟩ := ok _ m1
    obtain ⟨t, us, rfl, e3, e4, e5, e6, _⟩ := backM_rep ok1 r1
    refine ⟨t, us, rfl, rh.sub.tup _ _ e3, fun z => ne ?_, e5⟩
    rw [z] at e6
    exact List.length_eq_zero_iff.mp e6.symm
  · have r2 := reps_backs (K := X.K) (F := F) (vs := ys) fun y m => (e2 y (h1.mem_iff.mp m)).2
    have p2 := h1.map (backM F)
    rw [e1] at p2
    have s2 : (ys.map (backM F)).Pairwise (fun p q => lexM q p = false) := List.pairwise_map.mpr (List.Pairwise.imp_of_mem (fun {x y} mx my z => by
      obtain ⟨k1, o1⟩ := km x (h1.mem_iff.mp mx)
      obtain ⟨k2, o2⟩ := km y (h1.mem_iff.mp my)
      rw [k1, k2] at z
      rw [lexM_key o2 o1]; exact z) h2)
    exact new_D rh k r2 (q _ p2 s2) p hp
end W3
namespace W3
open PySem PySem.Spec PyProof.Rows L2
section
variable {X : Cx}
/-! ### list(range(n)) -/
def upD (a b : Int) : List D := (List.range (b - a).toNat).map fun (i : Nat) => D.int (a + (i : Int))
theorem rep_up {K : PySem.W.Frag} {F : Hp} (a b : Int) : RepDs K F (rgV a b) (upD a b) := by
  unfold rgV upD
  generalize List.range (b - a).toNat = l
  induction l with
  | nil => exact .nil
  | cons x l ih => exact .cons (.int _) ih
def wLstRg (own : Bool) (ta : XE) : XE := fun ρ μ Q => ta ρ μ fun u μ1 => match u with
  | .fz (.int n) => RgOk 0 n ∧ mkD own (upD 0 n) μ1 Q
  | _ => False
theorem qe_listRg (own : Bool) {a : Expr} {ta : XE} {p p2 pos pos2 : Pos} (hc : X.calm = true) (hm : X.mg "list" = none) (hm2 : X.mg "range" = none) (ha : QE X a ta)
    (hg : Gl X "list" := by rfl) (hg2 : Gl X "range" := by rfl)
    (na : starEach [.Call (.Name "range" p2) [a] [] pos2] X.env = (false, eval (.Call (.Name "range" p2) [a] [] pos2) X.env) :: starEach [] X.env := by rfl)
    (na2 : starEach [a] X.env = (false, eval a X.env) :: starEach [] X.env := by rfl) :
    QE X (.Call (.Name "list" p) [.Call (.Name "range" p2) [a] [] pos2] [] pos) (wLstRg own ta) :=
  PE.mono (pe_listRg hc hg hm (prg_1 hg2 hm2 ha na2) na) fun σ H R ⟨ρ, μ, F, τ, Q, r0, q, k⟩ => by
  refine ⟨ρ, μ, F, τ, _, r0, q, fun u v μ1 F1 τ1 H1 e1 r1 ru q1 => ?_⟩
  split at q1
  · exact ⟨_, int_of ru, q1.1, new_D r1 (k.at e1) (rep_up _ _) q1.2⟩
  · exact q1.elim
/-! ### a module's tuple of texts -/
def GStrs (K : PySem.W.Frag) (mg : Str → Option Value) (x : Str) (xs : List Str) : Prop :=
  ∃ (a : Addr) (o : Obj) (its : Array Value) (n : Nat), mg x = some (.ref a) ∧ K.lookup a = some o ∧ o.cls = .type "tuple" ∧ o.data = .seq its n ∧ its.size ≤ sizeLine ∧ Vals (xs.map V.str) its.toList
theorem repStrs {K : PySem.W.Frag} {F : Hp} : ∀ xs : List Str, RepDs K F (xs.map V.str) (xs.map .str)
  | [] => .nil
  | _ :: r => .cons (.str _) (repStrs r)
theorem qe_globT {x : Str} {xs : List Str} {pos : Pos} (C : GStrs X.K X.mg x xs) (hg : Gl X x := by rfl) (hd : (x == ("__debug__" : Str)) = false := by decide) : QE X (.Name x pos) (wC (.ktup (xs.map .str))) := by
  obtain ⟨a, o, its, n, e, h1, h2, h3, h4, h5⟩ := C
  exact PE.mono (pe_glob (v := .ref a) hg e rfl hd) fun σ H R ⟨ρ, μ, F, τ, Q, r, q, k⟩ => k _ _ μ F τ H (.refl _ _ _) r.h (RepU.fz (.ktup (.inr ⟨o, its, n, h1, h2, h3, h4, h5⟩) (repStrs xs))) q
end
end W3
namespace W3
open PySem PySem.Spec PyProof.Rows L2 PyProof.Rows.G
/-! ### walking a dict with tuple keys: it is locked from then on -/
section
variable {X : Cx} {tg e : Expr} {td : TE}
def iKeysL (td : TE) : TI := fun σ H R => td σ H fun x H1 => ∃ d, x = .ref d ∧ ((∃ o kvs, H1 d = some (.frz o (.dT kvs)) ∧ R (Itkt d o kvs) H1) ∨ ∃ kvs, H1 d = some (.dT kvs) ∧ ∀ o, R (Itkt d o kvs) (upd H1 d (.frz o (.dT kvs))))
theorem pi_keysL (he : PE X e td) : PI X tg e (iKeysL td) := by
  refine ⟨fun pins s σ H R I h => ?_⟩
  refine thn (he.run pins s σ H _ I h) fun u s1 ⟨x, H1, I1, rx, d, ex, q⟩ => ?_
  subst ex
  obtain rfl : u = Value.ref d := rx
  obtain ⟨H2, o, kvs, I2, hd, q⟩ : ∃ H2 o kvs, Inv X pins σ H2 s1 ∧ H2 d = some (.frz o (.dT kvs)) ∧ R (Itkt d o kvs) H2 := by
    rcases q with ⟨o, kvs, hd, q⟩ | ⟨kvs, hd, q⟩
    · exact ⟨H1, o, kvs, I1, hd, q⟩
    · obtain ⟨od, I2⟩ := I1.lock hd trivial
      exact ⟨_, od, kvs, I2, upd_same, q od⟩
  obtain ⟨hs, hgd, hx, es, ep, hdt, hsz, ent⟩ := I2.frzT hd
  refine iter_keys hs hgd hx hdt (pi_one (tk := s1.toks) I2 _ (turn_keysT _ hdt) ⟨_, Heap.get?_push_size _ rfl, rfl, ?_⟩ q)
  rw [hsz] <;> rfl
end
def kD : Key → D
  | .inl i => .int i
  | .inr x => .str x
theorem kD_rep {K : PySem.W.Frag} {F : Hp} : ∀ k : List Key, RepDs K F (k.map kV) (k.map kD)
  | [] => .nil
  | .inl i :: r => .cons (.int i) (kD_rep r)
  | .inr i :: r => .cons (.str i) (kD_rep r)
theorem keysD_kD : ∀ k : List Key, keysD (k.map kD) = some k
  | [] => rfl
  | .inl i :: r => by
    show (match keyD (.int i), keysD (r.map kD) with | some k, some ks => some (k :: ks) | _, _ => none) = _
    rw [keysD_kD r]; rfl
  | .inr i :: r => by
    show (match keyD (.str i), keysD (r.map kD) with | some k, some ks => some (k :: ks) | _, _ => none) = _
    rw [keysD_kD r]; rfl
/-- all tuples can be read -/
theorem RepH.seeAll {K : PySem.W.Frag} {F H : Hp} {τ : List Addr} {μ : Mu} (r : RepH K F τ μ H) : ∃ F', Ext F τ H F' τ H ∧ RepH K F' τ μ H ∧ ∀ q xs, H q = some (.tup xs) → F' q = some (.tup xs) := by
  let F' : Hp := fun a => match H a with
    | some (.tup xs) => some (.tup xs)
    | _ => F a
  have at1 : ∀ q xs, H q = some (.tup xs) → F' q = some (.tup xs) := fun q xs e => by simp only [F', e]
  have at2 : ∀ q, (∀ xs, H q ≠ some (.tup xs)) → F' q = F q := fun q e => by
    show (match H q with | some (.tup xs) => some (.tup xs) | _ => F q) = F q
    split
    · rename_i xs h; exact absurd h (e xs)
    · rfl
  have back : ∀ q o, F' q = some o → (∃ xs, o = .tup xs ∧ H q = some (.tup xs)) ∨ F q = some o := fun q o e => by
    by_cases c : ∃ xs, H q = some (.tup xs)
    · obtain ⟨xs, h⟩ := c
      rw [at1 q xs h] at e
      cases e
      exact .inl ⟨xs, rfl, h⟩
    · rw [at2 q fun xs z => c ⟨xs, z⟩] at e
      exact .inr e
  have keepN : ∀ a u, F a = some u → (∀ xs, H a ≠ some (.tup xs)) → F' a = some u := fun a u e n => by rw [at2 a n]; exact e
  have rd : ∀ a u, L2.Rd F a u → L2.Rd H a u → (∀ xs, u ≠ .tup xs) → L2.Rd F' a u := fun a u e h n => by
    have nt : ∀ xs, H a ≠ some (.tup xs) := fun xs z => by
      rcases h with h | ⟨ob, h⟩
      · rw [z] at h; cases h; exact n _ rfl
      · rw [z] at h; cases h
    rcases e with e | ⟨ob, e⟩
    · exact .inl (keepN _ _ e nt)
    · exact .inr ⟨ob, keepN _ _ e nt⟩
  have sub1 : Sub F F' := ⟨fun a vs e => at1 a vs (r.sub.tup _ _ e), fun a vs e => keepN _ _ e fun xs z => (by rw [r.sub.lst _ _ e] at z; cases z), fun a vs e => rd a _ e (r.sub.rl _ _ e) (fun _ z => (by cases z)), fun a vs e => by
      by_cases c : ∃ xs, H a = some (.tup xs)
      · obtain ⟨xs, h⟩ := c
        have z := r.sub.rt _ _ e
        rcases z with z | ⟨ob, z⟩
        · exact .inl (at1 _ _ z)
        · rw [h] at z; cases z
      · rcases e with e | ⟨ob, e⟩
        · exact .inl (keepN _ _ e fun xs z => c ⟨xs, z⟩)
        · exact .inr ⟨ob, keepN _ _ e fun xs z => c ⟨xs, z⟩⟩,
    fun a vs e => rd a _ e (r.sub.dK _ _ e) (fun _ z => (by cases z)), fun a vs e => rd a _ e (r.sub.dT _ _ e) (fun _ z => (by cases z)), fun a φ e => keepN _ _ e fun xs z => (by rw [r.sub.ex _ _ e] at z; cases z), fun a vs ⟨ob, hd, e⟩ => ⟨ob, hd, keepN _ _ e fun xs z => (by
      obtain ⟨o2, _, e2⟩ := r.sub.zt a vs ⟨ob, hd, e⟩
      rw [e2] at z; cases z)⟩⟩
  have rdb : ∀ a u, L2.Rd F' a u → (∃ xs, u = .tup xs ∧ H a = some (.tup xs)) ∨ L2.Rd F a u := fun a u e => by
    rcases e with e | ⟨ob, e⟩
    · rcases back _ _ e with q | q
      · exact .inl q
      · exact .inr (.inl q)
    · rcases back _ _ e with ⟨xs, q, _⟩ | q
      · cases q
      · exact .inr (.inr ⟨ob, q⟩)
  have sub2 : Sub F' H := ⟨fun a vs e => by
      rcases back _ _ e with ⟨xs, q, h⟩ | q
      · cases q; exact h
      · exact r.sub.tup _ _ q,
    fun a vs e => by
      rcases back _ _ e with ⟨xs, q, h⟩ | q
      · cases q
      · exact r.sub.lst _ _ q,
    fun a vs e => by
      rcases rdb _ _ e with ⟨xs, q, h⟩ | q
      · cases q
      · exact r.sub.rl _ _ q,
    fun a vs e => by
      rcases rdb _ _ e with ⟨xs, q, h⟩ | q
      · cases q; exact .inl h
      · exact r.sub.rt _ _ q,
    fun a vs e => by
      rcases rdb _ _ e with ⟨xs, q, h⟩ | q
      · cases q
      · exact r.sub.dK _ _ q,
    fun a vs e => by
      rcases rdb _ _ e with ⟨xs, q, h⟩ | q
      · cases q
      · exact r.sub.dT _ _ q,
    fun a φ e => by
      rcases back _ _ e with ⟨xs, q, h⟩ | q
      · cases q
      · exact r.sub.ex _ _ q,
    fun a vs ⟨ob, hd, e⟩ => by
      rcases back _ _ e with ⟨xs, q, h⟩ | q
      · cases q
      · exact r.sub.zt a vs ⟨ob, hd, q⟩⟩
  refine ⟨F', ⟨sub1, ⟨[], by simp⟩, fun b o e _ _ => e, fun b z => .inl z, fun b z => ?_, fun b z => z, fun _ _ _ z => z⟩, ⟨sub2, fun a e => ?_, r.len, r.inj, fun i a ei li => ?_, r.tr, fun i a m e1 e2 nm => ?_, fun a ps e => ?_⟩, at1⟩
  · by_cases c : ∃ xs, H b = some (.tup xs)
    · exact .inr (.inr (.inr c))
    · rw [at2 b fun xs z => c ⟨xs, z⟩] at z
      exact .inl z
  · rw [at2 a fun xs z => by rw [e] at z; cases z]
    exact r.dom a e
  · obtain ⟨m, em, nm⟩ := li
    obtain ⟨o, eo, ro⟩ := r.obj i a m ei em nm
    rw [at2 a fun xs z => by rw [eo] at z; cases z; cases m <;> exact ro.elim]
    exact r.off i a ei ⟨m, em, nm⟩
  · obtain ⟨o, eo, ro⟩ := r.obj i a m e1 e2 nm
    exact ⟨o, eo, ro.mono sub1 ⟨[], by simp⟩⟩
  · rw [at2 a fun xs z => by rw [e] at z; cases z]
    exact r.nt a ps e
/-- a dict that is read is locked -/
theorem RepH.lockT {K : PySem.W.Frag} {F H : Hp} {τ : List Addr} {μ : Mu} {a : Addr} {kvs : List (List Key × V)} (r : RepH K F τ μ H) (hF : L2.Rd F a (.dT kvs)) (hH : H a = some (.dT kvs)) (o : Obj) :
    Ext F τ H (upd F a (.frz o (.dT kvs))) τ (upd H a (.frz o (.dT kvs))) ∧ RepH K (upd F a (.frz o (.dT kvs))) τ μ (upd H a (.frz o (.dT kvs))) := by
  have ne : ∀ b, F b = none → b ≠ a := fun b e z => by
    rw [z] at e
    rcases hF with h | ⟨ob, h⟩
    · rw [e] at h; cases h
    · rw [e] at h; cases h
  have same : ∀ u, L2.Rd H a u → u = .dT kvs := fun u h => by
    rcases h with h | ⟨ob, h⟩
    · rw [hH] at h; cases h; rfl
    · rw [hH] at h; cases h
  have rd : ∀ b u, L2.Rd F b u → L2.Rd H b u → L2.Rd (upd F a (.frz o (.dT kvs))) b u := fun b u e h => by
    by_cases q : b = a
    · subst q
      rw [same u h]
      exact Rd.upd_at (.inr ⟨o, rfl⟩)
    · exact Rd.upd_off q e
  have sub1 : Sub F (upd F a (.frz o (.dT kvs))) := ⟨fun b vs e => by
      rw [upd_ne (fun z => by have := r.sub.tup _ _ e; rw [z, hH] at this; cases this)]; exact e,
    fun b vs e => by
      rw [upd_ne (fun z => by have := r.sub.lst _ _ e; rw [z, hH] at this; cases this)]; exact e,
    fun b vs e => rd _ _ e (r.sub.rl _ _ e), fun b vs e => rd _ _ e (r.sub.rt _ _ e), fun b vs e => rd _ _ e (r.sub.dK _ _ e), fun b vs e => rd _ _ e (r.sub.dT _ _ e), fun b φ e => by
      rw [upd_ne (fun z => by have := r.sub.ex _ _ e; rw [z, hH] at this; cases this)]; exact e,
    fun b vs ⟨ob, hd, e⟩ => ⟨ob, hd, by
      rw [upd_ne (fun z => by
        obtain ⟨o2, _, e2⟩ := r.sub.zt b vs ⟨ob, hd, e⟩
        rw [z, hH] at e2; cases e2)]; exact e⟩⟩
  refine ⟨⟨sub1, ⟨[], by simp⟩, fun b u e _ hq => ?_, fun b z => .inl z, fun b z => ?_, fun b z => ?_, fun b ob u e => ?_⟩, ⟨Sub.both r.sub, fun b e => ?_, r.len, r.inj, fun i b ei li => ?_, fun i b ei => ?_, fun i b m e1 e2 nm => ?_, fun b ps e => ?_⟩⟩
  · by_cases q : b = a
    · subst q
      rw [hH] at e
      cases e
      rcases hq with hq | hq
      · exact absurd rfl (ne _ hq)
      · exact absurd rfl (hq kvs)
    · rw [upd_ne q]; exact e
  · by_cases q : b = a
    · exact .inl fun z => ne _ z q
    · rw [upd_ne q] at z; exact .inl z
  · by_cases q : b = a
    · subst q; rw [upd_same] at z; cases z
    · rwa [upd_ne q] at z
  · rw [upd_ne (fun z => by rw [z, hH] at e; cases e)]; exact e
  · by_cases q : b = a
    · subst q; rw [upd_same] at e; cases e
    · rw [upd_ne q] at e ⊢; exact r.dom b e
  · have z := r.off i b ei li
    rw [upd_ne (ne _ z)]; exact z
  · by_cases q : b = a
    · subst q; rw [upd_same]; intro z; cases z
    · rw [upd_ne q]; exact r.tr i b ei
  · obtain ⟨ob, eo, ro⟩ := r.obj i b m e1 e2 nm
    have z := r.off i b e1 ⟨m, e2, nm⟩
    exact ⟨ob, by rw [upd_ne (ne _ z)]; exact eo, ro.mono sub1 ⟨[], by simp⟩⟩
  · by_cases q : b = a
    · subst q; rw [upd_same] at e; cases e
    · rw [upd_ne q] at e ⊢; exact r.nt b ps e
theorem repK2_get {K : PySem.W.Frag} {F : Hp} : ∀ {kvs : List (List Key × V)} {kds : List (List Key × D)}, RepK2 K F kvs kds → kvs.map (·.1) = kds.map (·.1)
  | _, _, .nil => rfl
  | _, _, .cons h r => by rw [List.map_cons, List.map_cons, repK2_get r]
section
variable {X : Cx} {tg : Expr}
/-- the keys of a dict with tuple keys -/
def keysT (kds : List (List Key × D)) : List U := kds.map fun p => .fz (.tup (p.1.map kD))
def xKeysT (te : XE) : XI := fun ρ μ Q => te ρ μ fun u μ1 => match u with
  | .fz (.dT kds) => Q (keysT kds) μ1
  | _ => False
theorem walk_keysT {K : PySem.W.Frag} {F H : Hp} {τ : List Addr} {a : Addr} {o : Obj} {kvs : List (List Key × V)} {kds : List (List Key × D)} (hH : H a = some (.frz o (.dT kvs))) (hk : kvs.map (·.1) = kds.map (·.1)) : WalkX K (Itkt a o kvs) (keysT kds) F τ H := by
  have hl : kvs.length = kds.length := by
    have := congrArg List.length hk
    rwa [List.length_map, List.length_map] at this
  have hl2 : (keysT kds).length = kds.length := List.length_map ..
  refine ⟨fun F2 τ2 μ2 H2 e2 r2 i u hu => ?_, fun F2 τ2 μ2 H2 e2 r2 i u hu x H3 y => ?_, fun F2 τ2 μ2 H2 e2 r2 i hi => ?_⟩
  · have := (List.getElem?_eq_some_iff.mp hu).1
    exact ⟨e2.fz _ _ _ hH, by omega⟩
  · obtain ⟨rfl, k, v, q, h1, rfl, h2⟩ := y
    obtain ⟨F3, e3, r3, see⟩ := r2.seeAll
    refine ⟨F3, e3, r3, ?_⟩
    have z : (kvs.map (·.1))[i]? = some k := by rw [List.getElem?_map, h1]; rfl
    rw [hk, List.getElem?_map] at z
    unfold keysT at hu
    rw [List.getElem?_map] at hu
    cases w : kds[i]? with
    | none => rw [w] at z; cases z
    | some p =>
      rw [w] at z hu
      cases z
      cases hu
      exact RepU.fz (.tup (see _ _ h2) (kD_rep _))
  · exact ⟨e2.fz _ _ _ hH, by omega⟩
theorem qi_keysT {l : Expr} {te : XE} (hl : QE X l te) : QI X tg l (xKeysT te) := PI.mono (pi_keysL hl) fun σ H R ⟨ρ, μ, F, τ, Q, r, q, k⟩ => by
  refine ⟨ρ, μ, F, τ, _, r, q, fun u v μ1 F1 τ1 H1 e1 r1 ru q1 => ?_⟩
  split at q1
  · rename_i kds
    cases ru with
    | @dT a kvs _ hF rk =>
      have hk := repK2_get rk
      refine ⟨a, rfl, ?_⟩
      rcases r1.sub.dT _ _ hF with h | ⟨ob, h⟩
      · refine .inr ⟨kvs, h, fun o => ?_⟩
        obtain ⟨e2, r2⟩ := r1.lockT hF h o
        exact k _ μ1 _ τ1 _ _ (e1.trans e2) r2 (walk_keysT upd_same hk) q1
      · exact .inl ⟨ob, kvs, h, k _ μ1 F1 τ1 H1 _ e1 r1 (walk_keysT h hk) q1⟩
  · exact q1.elim
end
/-! ### sorted of a dict with tuple keys -/
theorem tup_key {X : Cx} {pins : List (Addr × Obj)} {σ : Sl} {H : Hp} {s : Shared} (I : Inv X pins σ H s) {shape : Nat → Bool} {t : Addr} {us : List V} (ht : H t = some (.tup us)) (hne : us ≠ []) (ok : okV shape 0 us) :
    tupKeyC s.heap shape (.ref t) = some (kM H (.ref t)) ∧ ∃ f, TupOf s.heap shape (.ref t) f := by
  obtain ⟨_, its2, r2, o, ho, hc, n, hd⟩ := I.hok _ _ ht
  have it := items_of ok r2
  constructor
  · have e3 : isTupObj s.heap (.ref t) = true := by
      simp only [isTupObj, ho, hc]; rfl
    unfold tupKeyC
    rw [if_pos e3]
    simp only [tupKey, ho, hd, kM, ht]
    exact it
  · cases us with
    | nil => exact absurd rfl hne
    | cons u us =>
      cases r2 with
      | @cons _ f _ its3 r1 r3 =>
        refine ⟨f, t, o, _, n, rfl, ho, hc, hd, rfl, fun e => ?_, fun e => ?_⟩
        · cases u with
          | int k => obtain ⟨tk, rfl⟩ := r1; exact ⟨_, _, rfl⟩
          | str k => rw [ok.1] at e; cases e
          | _ => exact ok.elim
        · cases u with
          | str k => obtain ⟨tk, rfl⟩ := r1; exact ⟨_, _, rfl⟩
          | int k => rw [ok.1] at e; cases e
          | _ => exact ok.elim
theorem paired_mem {α β : Type} {R : α → β → Prop} : ∀ {l : List α} {m : List β}, Paired R l m → ∀ x ∈ m, ∃ p ∈ l, R p x
  | _, _, .nil, x, h => by cases h
  | _, _, .cons h r, x, m => by
    rcases List.mem_cons.mp m with rfl | m
    · exact ⟨_, List.mem_cons_self, h⟩
    · obtain ⟨p, hp, e⟩ := paired_mem r x m
      exact ⟨p, List.mem_cons_of_mem _ hp, e⟩
section
variable {X : Cx}
def rSortedDT : List V → Hp → VK → Prop := fun vs H Q => ∃ (shape : Nat → Bool) (a : Addr) (kvs : List (List Key × V)), vs = [V.ref a] ∧ L2.Rd H a (.dT kvs) ∧
  (∀ p ∈ kvs, p.1 ≠ [] ∧ okV shape 0 (p.1.map kV)) ∧
  ∀ bs, IsKeys H kvs bs → ∀ ys p, ys.Perm (bs.map V.ref) → ys.Pairwise (fun x y => lexLt itemOrd (kM H y) (kM H x) = false) → H p = none → Q (.ref p) (upd H p (.lst ys))
theorem cr_sortedDT (hcalm : X.calm = true) : CallR X (.builtin "sorted") rSortedDT := by
  intro pins s σ H xs us Q I r h
  obtain ⟨shape, d, kvs, rfl, hd, hx, q⟩ := h
  obtain ⟨u, rfl, rx⟩ := r.one
  cases rx
  obtain ⟨z, hs, ks, pr, o, es, ep, ho, hxd, hdt, he, hn⟩ := (show ObjOk X.prog X.w H s.heap d (.dT kvs) from hd.ok I.hok)
  have l1 : es.size = ks.length := size_of_entries he
  have l2 : kvs.length = ks.length := Paired.length pr
  refine Calls.call_function_entry PyProof.Rows.kind_sorted PyProof.Rows.plain_sorted PyProof.Rows.entry_sorted (PyProof.Rows.args_sorted1 _) ?_
  unfold Builtin.«sorted»
  refine wpAny_bind (m := checkCount "sorted" 1 1 _) (wpAny_pure ?_)
  refine wpAny_bind (PySem.W.kdu_collect (A := X.A.in1) (kdl_raw hs hxd hdt) (I.ok.hd hcalm) ho (by omega) fun h' tk acc hk hacc => ?_)
  have ea : acc.toList = ks.map fun x => Value.ref x.2.1 := by
    have hl : acc.toList.length = ks.length := by rw [Array.length_toList, hacc.1]; exact l1
    apply List.ext_getElem?
    intro j
    rw [List.getElem?_map]
    cases hj : acc.toList[j]? with
    | none =>
      have h1 := List.getElem?_eq_none_iff.mp hj
      rw [List.getElem?_eq_none (by omega)]
      all_goals rfl
    | some v =>
      obtain ⟨en, hen, hv⟩ := hacc.2 j v (by rw [← Array.getElem?_toList]; exact hj)
      have qe := entry_at he j
      rw [hen] at qe
      cases hb : ks[j]? with
      | none =>
        rw [hb] at qe
        exact nomatch (show some en = none from qe)
      | some b =>
        rw [hb] at qe
        have e2 : en = entryOfKey (tupleKind (mixKind X.prog X.w)) b := Option.some.inj qe
        rw [hv, e2]
        all_goals rfl
  have hz : acc.toList.length ≤ sizeLine := by rw [ea, List.length_map, ← l2]; exact z
  have I1 : Inv X pins σ H { s with heap := h', toks := tk } := I.kept hk
  refine wpAny_bind (wpAny_newList ?_ hz)
  have hoL : (h'.push (seqObj "list" acc.toList.toArray 0)).get? h'.objs.size = some (seqObj "list" acc.toList.toArray 0) := Heap.get?_push_size _ rfl
  show wpAny _ _ _ _ _ { s with heap := h'.push (seqObj "list" acc.toList.toArray 0), toks := tk }
  have I2 : Inv X pins σ H { s with heap := h'.push (seqObj "list" acc.toList.toArray 0), toks := tk } := I1.kept (t' := tk) fun b u e => Heap.get?_push_of_some _ e
  have key : ∀ v ∈ acc.toList, (tupKeyC (h'.push (seqObj "list" acc.toList.toArray 0)) shape v = some (kM H (backV v)) ∧ ∃ f, TupOf (h'.push (seqObj "list" acc.toList.toArray 0)) shape v f) ∧ ∃ t, v = .ref t := fun v hv => by
    rw [ea] at hv
    obtain ⟨x, hxm, rfl⟩ := List.mem_map.mp hv
    obtain ⟨p, hp, e1, e2, _⟩ := paired_mem pr x hxm
    obtain ⟨h1, h2⟩ := hx p hp
    exact ⟨tup_key I2 e2 (fun z => h1 (List.map_eq_nil_iff.mp z)) h2, _, rfl⟩
  obtain ⟨fs, hfs⟩ := tups_all fun v hv => (key v hv).1.2
  refine wpAny_bind (wpAny_holding (wpAny_call_entry PyProof.Rows.slot_list_sort ⟨_, hoL, rfl⟩ PyProof.Rows.entry_list_sort
    (PyProof.Rows.G.list_sort_tups (s := { s with heap := h'.push (seqObj "list" acc.toList.toArray 0), toks := tk }) (shape := shape) (vs := acc.toList) (fs := fs) hoL hfs (fun v hv => ⟨_, (key v hv).1.1⟩) hz fun st' hp hso _ => ⟨_, rfl, ?_⟩) (PyProof.Rows.args_list_sort _)))
  have hp1 : (arrOf st').toList.Perm (acc.toList.zip acc.toList) := by rw [← pairsOf_toList]; exact hp.toList
  have hmem : ∀ p ∈ (arrOf st').toList, p.1 = p.2 ∧ p.2 ∈ acc.toList := fun p hp' => by
    obtain ⟨e, m⟩ := mem_zip_self (hp1.mem_iff.mp hp')
    exact ⟨e, by first | exact m | exact e ▸ m⟩
  have hp2 : ((arrOf st').map (·.2)).toList.Perm acc.toList := by
    have z := hp1.map Prod.snd
    rw [List.map_snd_zip (Nat.le_refl _)] at z
    rw [Array.toList_map]
    exact z
  obtain ⟨e', he'⟩ := PyProof.Rows.sortedHeap_at (vs := acc.toList) (out := (arrOf st').map (·.2)) hoL
  have h3 : ∀ u ∈ ((arrOf st').map (·.2)).toList, ∃ a, u = Value.ref a := fun u hu => (key u (hp2.mem_iff.mp hu)).2
  have hp3 := hp2.map backV
  have eb : acc.toList.map backV = (ks.map fun x => x.2.1).map V.ref := by rw [ea, List.map_map, List.map_map]; all_goals rfl
  rw [eb] at hp3
  have hso' : (((arrOf st').map (·.2)).toList.map backV).Pairwise (fun x y => lexLt itemOrd (kM H y) (kM H x) = false) := by
    rw [List.pairwise_map, Array.toList_map, List.pairwise_map, List.pairwise_iff_getElem]
    intro i j hi hj hij
    have sz : (arrOf st').size = (pairsOf acc.toList).size := by
      have z := hp.toList.length_eq; simpa using z
    have z := hso i j (Nat.le_of_lt hij) (by rw [← sz]; simpa using hj)
    have kk : ∀ k (hk : k < (arrOf st').toList.length), KK (tupKindC (h'.push (seqObj "list" acc.toList.toArray 0)) shape) (arrOf st') k = kM H (backV ((arrOf st').toList[k]).2) := fun k hk => by
      obtain ⟨ea, ma⟩ := hmem _ (List.getElem_mem hk)
      have hk' : k < (arrOf st').size := by simpa using hk
      have e5 : (arrOf st')[k]? = some ((arrOf st').toList[k]) := by
        rw [Array.getElem?_eq_getElem hk']; simp
      unfold KK
      rw [e5]
      show (tupKeyC _ shape _).getD [] = _
      rw [ea, (key _ ma).1.1]
      rfl
    have z : lexLt itemOrd (KK (tupKindC (h'.push (seqObj "list" acc.toList.toArray 0)) shape) (arrOf st') j) (KK (tupKindC (h'.push (seqObj "list" acc.toList.toArray 0)) shape) (arrOf st') i) = false := z
    rw [kk i hi, kk j hj] at z
    exact z
  have hlen : (((arrOf st').map (·.2)).toList.map backV).length ≤ sizeLine := by
    rw [hp3.length_eq, ← eb, List.length_map]; exact hz
  refine wpAny_pure ⟨_, rfl, .ref h'.objs.size, upd H h'.objs.size (.lst (((arrOf st').map (·.2)).toList.map backV)), I1.laid (t' := tk) (fun b u e => ?_) (Nat.le_refl _)
    (show ObjOk X.prog X.w _ _ _ (.lst _) from ⟨hlen, _, e', vals_back h3, by rw [Array.toArray_toList]; exact he'⟩), rfl, q _ (isKeys_of pr) _ _ hp3 hso' (I1.hok.fresh (Nat.le_refl _))⟩
  have hb : b < h'.objs.size := Heap.lt_size e
  rw [PyProof.Rows.sortedHeap_old (Nat.ne_of_lt hb) (by rw [size_push']; exact Nat.lt_succ_of_lt hb)]
  exact Heap.get?_push_of_some _ e
end
/-! ### as data -/
theorem isKeys_len {H : Hp} {kvs : List (List Key × V)} {bs : List Addr} (h : IsKeys H kvs bs) : kvs.length = bs.length := Paired.length h
theorem okV_of {shape : Nat → Bool} : ∀ {k : List Key} {i : Nat}, okD shape i (k.map kD) → okV shape i (k.map kV)
  | [], _, _ => trivial
  | .inl _ :: r, _, h => ⟨h.1, okV_of h.2⟩
  | .inr _ :: r, _, h => ⟨h.1, okV_of h.2⟩
theorem keysT_rep {K : PySem.W.Frag} {H F : Hp} (see : ∀ q xs, H q = some (.tup xs) → F q = some (.tup xs)) : ∀ {kvs : List (List Key × V)} {bs : List Addr}, IsKeys H kvs bs → RepDs K F (bs.map V.ref) ((kvs.map fun p => p.1.map kD).map .tup)
  | _, _, .nil => .nil
  | _, _, .cons h r => .cons (.tup (see _ _ h) (kD_rep _)) (keysT_rep see r)
/-- sorted(x): a dict with tuple keys of one shape -/
def oSortedDT (own : Bool) : U → Mu → UK → Prop := fun u μ Q => ∃ (shape : Nat → Bool) (kds : List (List Key × D)), u = .fz (.dT kds) ∧ (∀ p ∈ kds, p.1 ≠ [] ∧ okD shape 0 (p.1.map kD)) ∧
  ∀ ess : List (List D), ess.Perm (kds.map fun p => p.1.map kD) → ess.Pairwise (fun p q => lexM q p = false) → mkD own (ess.map .tup) μ Q
theorem qc_sortedDT {X : Cx} (hc : X.calm = true) (own : Bool) : QC X (.builtin "sorted") (c1 (oSortedDT own)) := CallR.mono (cr_sortedDT hc) fun xs H R h => by
  obtain ⟨F, τ, μ, v, u, Q, rfl, rh, ru, ⟨shape, kds, rfl, ok, q⟩, k⟩ := c1_of h
  cases ru with
  | @dT a kvs _ hF rk =>
    have hk := repK2_get rk
    have hk2 : kvs.map (fun p => p.1.map kD) = kds.map (fun p => p.1.map kD) := by
      have z := congrArg (List.map fun k : List Key => k.map kD) hk
      rw [List.map_map, List.map_map] at z
      exact z
    have okk : ∀ p ∈ kvs, p.1 ≠ [] ∧ okD shape 0 (p.1.map kD) := fun p hp => by
      have m : p.1 ∈ kds.map (·.1) := by rw [← hk]; exact List.mem_map_of_mem hp
      obtain ⟨p', hp', e⟩ := List.mem_map.mp m
      rw [← e]; exact ok p' hp'
    obtain ⟨F2, e2, r2, see⟩ := rh.seeAll
    refine ⟨shape, a, kvs, rfl, rh.sub.dT _ _ hF, fun p hp => ⟨(okk p hp).1, okV_of (okk p hp).2⟩, fun bs hb ys p h1 h2 hp => ?_⟩
    have rd := keysT_rep (K := X.K) see hb
    have okd : ∀ ds ∈ kvs.map (fun p => p.1.map kD), ds ≠ [] ∧ okD shape 0 ds := fun ds m => by
      obtain ⟨p, hp, rfl⟩ := List.mem_map.mp m
      exact ⟨fun z => (okk p hp).1 (List.map_eq_nil_iff.mp z), (okk p hp).2⟩
    obtain ⟨e1, e3⟩ := backs_rep okd rd
    have km : ∀ x ∈ bs.map V.ref, kM H x = (backM F2 x).map itemD ∧ okD shape 0 (backM F2 x) := fun x m => by
      obtain ⟨m1, r1⟩ := e3 x m
      have ok1 := (okd _ m1).2
      obtain ⟨t, us, rfl, h3, _, _, _, h5⟩ := backM_rep ok1 r1
      exact ⟨by simp only [kM, r2.sub.tup _ _ h3]; exact h5, ok1⟩
    have r3 := reps_backs (K := X.K) (F := F2) (vs := ys) fun y m => (e3 y (h1.mem_iff.mp m)).2
    have p2 := h1.map (backM F2)
    rw [e1, hk2] at p2
    have s2 : (ys.map (backM F2)).Pairwise (fun p q => lexM q p = false) := List.pairwise_map.mpr (List.Pairwise.imp_of_mem (fun {x y} mx my z => by
      obtain ⟨k1, o1⟩ := km x (h1.mem_iff.mp mx)
      obtain ⟨k2, o2⟩ := km y (h1.mem_iff.mp my)
      rw [k1, k2] at z
      rw [lexM_key o2 o1]; exact z) h2)
    exact new_D r2 (k.at e2) r3 (q _ p2 s2) p hp
section
variable {X : Cx} {pos : Pos}
/-! ### a, b = x, y with captured names: by a new tuple -/
def wParG (n : Nat) (ta : XA) (g : XGs) : XS := fun E ρ μ => ta ρ μ fun us μ1 => us.length ≤ sizeLine ∧ us.length = n ∧ g us ρ μ1 E.nx
theorem qs_parG {es ts : List Expr} {k k2 : Nat} {pt pt2 : Pos} {n : Nat} {ta : XA} {g : XGs} (hc : X.calm = true) (ha : QA X es ta) (hg : QGs X ts g)
    (hn : (assignEach ts X.env).length = n := by rfl) (hst : (assignEach ts X.env).findIdx? (·.1) = none := by rfl)
    (hs : swapsWithSole [.Tuple ts k pt] (.Tuple es k2 pt2) pos.line X.env = pure false := by rfl) (hw : swappedStores [.Tuple ts k pt] (.Tuple es k2 pt2) X.env = pure none := by rfl)
    (h1 : (assignEach [.Tuple ts k pt] X.env).map (·.2) = [assign (.Tuple ts k pt) X.env] := by rfl) : QS X (.Assign [.Tuple ts k pt] (.Tuple es k2 pt2) pos) (wParG n ta g) :=
  PS.mono (ps_asg (pe_tup ha) (pg_tup hc hg hn hst) hs hw h1) fun D σ H ⟨ρ, μ, F, τ, E, r, q, c⟩ => by
    refine ⟨ρ, μ, F, τ, _, r, q, fun us vs μ1 F1 τ1 H1 e1 r1 rus ⟨z, hl, q1⟩ => ?_⟩
    refine ⟨by rw [RepUs.length rus]; exact z, fun p hp => ?_⟩
    have e2 := Ext.newF (τ := τ1) (.tup vs) (r1.dom p hp) hp
    have r2 := r1.newF (.tup vs) hp
    exact ⟨p, vs, rfl, .inl (.inl upd_same), by rw [RepUs.length rus]; exact hl, us, ρ, μ1, _, τ1, _, r.at (e1.trans e2) r2, RepUs.at rus e2, q1, (c.at (e1.trans e2)).nx⟩
end
/-! an expression that is never reached -/
def wNoE : XE := fun _ _ _ => False
theorem qe_no {X : Cx} {e : Expr} : QE X e wNoE := ⟨fun pins s σ H Q I h => by
  obtain ⟨ρ, μ, F, τ, Q, r, q, k⟩ := h
  exact q.elim⟩
/-! ### list.extend of a tuple -/
theorem list_extend_tup (l : Addr) (items : Array Value) (n : Nat) (b : Addr) (items2 : Array Value) (n2 : Nat) (o : Obj) (oc : o.cls = .type "tuple") (od : o.data = .seq items2 n2) (hs0 : ¬(!items.isEmpty && Builtin.List.listTooLong (items.size + items2.size)) = true) (hs1 : items.size ≤ sizeLine) (hs2 : items.size + items2.size ≤ sizeLine + 1) :
    Meets (Builtin.«list.extend» ⟨[.ref l, .ref b], []⟩) (fun _ R s => s.heap.get? l = some { cls := .type "list", dict := none, data := .seq items n, slots := #[] } ∧ s.heap.get? b = some o ∧ R (.ok (.ret Value.none)) { s with heap := s.heap.update l (Obj.mapSeq fun x => x ++ items2), toks := s.toks }) :=
  .of_wp fun prog w A R s h => by
    obtain ⟨hp, g, d, tk, os⟩ := s
    obtain ⟨hl, hb, h⟩ := h
    obtain ⟨oc', dict', data', slots'⟩ := o
    simp only at oc od
    subst oc od
    have f1 := AutoSeq1.idx_int; have f2 := AutoSeq1.sub_tuple_tuple; have f3 := AutoSeq1.sub_list_list; have f4 := AutoSeq1.sub_tuple_list; have f5 := AutoSeq1.sub_list_tuple
    have hz' : (items ++ items2).size ≤ sizeLine + 1 := by rw [Array.size_append]; exact hs2
    wp_walk using (wpAny_updateSeq hl rfl (hz := hs1) (_hz' := hz')), AutoSeq1.wpAny_loadPart' hl, AutoSeq1.wpAny_loadPart' hb
    exact ⟨_, rfl, h⟩
section
variable {X : Cx}
def rExtendT (K : PySem.W.Frag) : V → List V → Hp → VK → Prop := fun x vs H Q => ∃ l b xs zs, x = .ref l ∧ vs = [.ref b] ∧ H l = some (.lst xs) ∧ SqT K H b zs ∧ xs.length + zs.length ≤ sizeLine ∧ Q .non (upd H l (.lst (xs ++ zs)))
theorem mt_extendT : MtM X "list.extend" (rExtendT X.K) := by
  intro pins s σ H x vs v us Q I rx rv h
  obtain ⟨l, b, xs, zs, rfl, rfl, hH, hB, hz, q⟩ := h
  cases rx
  obtain ⟨u, rfl, ru⟩ := rv.one
  cases ru
  obtain ⟨z, its, n, r, hl, e⟩ := I.lstM hH
  obtain ⟨its2, r2, ⟨o, eo, oc, n2, od⟩, _⟩ := I.tuple hB
  have hl2 := r2.length
  have hsz : its.toArray.size + its2.toArray.size ≤ sizeLine := by rw [List.size_toArray, List.size_toArray]; omega
  have hlong : ¬ (!its.toArray.isEmpty && Builtin.List.listTooLong (its.toArray.size + its2.toArray.size)) = true := by
    rw [notLongL hsz, Bool.and_false]
    exact Bool.false_ne_true
  refine call_meets F.slot_list_extend ⟨_, e, rfl⟩ F.entry_list_extend (F.args_list_extend_2 _ _)
    (list_extend_tup l its.toArray n b its2.toArray n2 o oc od hlong (by rw [List.size_toArray]; omega) (by omega)) ⟨e, eo, ?_⟩
  refine ⟨.non, _, I.lset (its' := its ++ its2) hH e (by simp) (r.append r2) ?_, rfl, q⟩
  rw [List.length_append]
  omega
def oExtendT : U → List U → Mu → UK → Prop := fun u us μ Q => match u, us with
  | .ptr n, [.fz (.tup ds)] => match μ[n]? with
    | some (.lst xs) => xs.length + ds.length ≤ sizeLine ∧ Q (.fz .non) (μ.set n (.lst (xs ++ ds.map .fz)))
    | _ => False
  | _, _ => False
theorem qm_extendT : MtR X "list.extend" (liftM X.K oExtendT) := MtR.mono mt_extendT fun x xs H R ⟨F, τ, μ, u, us, Q, rh, ru, rus, q, k⟩ => by
  unfold oExtendT at q
  split at q
  · split at q
    · rename_i n ds zs hn
      obtain ⟨a, vs, ea, rfl, ha, rv⟩ := ptrL_of rh ru hn
      obtain ⟨y, rfl, ry⟩ := one_of rus
      obtain ⟨b, ws, rfl, hb, rw'⟩ := tup_of ry
      exact ⟨a, b, vs, ws, rfl, rfl, ha, sqT_of rh.sub hb, by rw [RepUs.length rv, rw'.length]; exact q.1, write rh k ea hn (by intro z; cases z) (show RepO X.K F τ (.lst _) (.lst _) from RepUs.append rv (repUs_ofD rw')) (RepU.fz .non) q.2⟩
    · exact q.elim
  · exact q.elim
end
end W3
namespace W3
open PySem PySem.Spec PyProof.Rows L2
/-! ### exceptions: own classes without own __init__, made with no argument -/
structure ExcCls (K : PySem.W.Frag) (mg : Str → Option Value) (bm : List Value) (x : Str) (C : Addr) : Prop where
  g : mg x = some (.ref C)
  kp : PySem.W.keepIn K (.ref C) = true
  ex : PySem.W.excIn K C bm "ValueError.__new__" = true
  sub : PySem.W.subIn K (.ref C) (.type "BaseException") = some true
  ty : PySem.W.typeIn K (.ref C) = some (.type "type")
  me : PySem.W.exmOne K (.ref C) (.ref C) = some true
section
variable {X : Cx} {C : Addr} {bmB : List Value} {B newId initId : String}
theorem pmk_own0 {x : Str} {p pos : Pos} (F : ExcBaseFacts B newId initId bmB) (q : PySem.W.excIn X.K C bmB newId = true) (gC : X.mg x = some (.ref C)) (kC : PySem.W.keepIn X.K (.ref C) = true) (r : Raises X (.ref C)) (hg : Gl X x)
    (hdb : (x == ("__debug__" : Str)) = false := by decide) : PMk X (.Call (.Name x p) [] [] pos) (fun _ H Q => Q (.ref C) none H) := by
  intro pins s σ H Q I h
  refine wpAny_Call_Name_kw (ld_glob I hg gC ?_ hdb)
  refine PySem.W.callWith_K0 I.kIn kC ?_
  show wpAny _ _ (call (.ref C) []) _ _ _
  obtain ⟨bm, N, nm, qn, bs, hdct, sn, sub, ab, col, dd, k0, k1, k2, k3, k5, mN, hC, hN, hni, T⟩ := exc_obj I.kIn q
  obtain ⟨hp, g, d, t, os⟩ := s
  exact wpAny_call_exc_subT F T hC hN hni (fun h' e hm => mk_of I hm r h (I.hok.gone hm.new)) (Nat.zero_le _)
end
/-- what is told of exceptions: the class's name, the slots, the own objects -/
abbrev XK3 := Str → Rho → Mu → Prop
abbrev XSX := XEnds → XK3 → Rho → Mu → Prop
abbrev XEX := Rho → Mu → UK → (Str → Mu → Prop) → Prop
abbrev XSpX := List U → Mu → UK → (Str → Mu → Prop) → Prop
section
variable (X : Cx)
def CtW (F : Hp) (τ : List Addr) (H : Hp) (E3 : XK3) (W : WX) : Prop := ∀ (x : Str) (C : Addr) ρ' σ' μ' F' τ' H', X.mg x = some (.ref C) → Ext F τ H F' τ' H' → Rep X.K F' τ' ρ' μ' σ' H' → E3 x ρ' μ' → W (.ref C) none σ' H'
def liftSX (W : WX) (t : XSX) : TS := fun D σ H => ∃ ρ μ F τ E E3, Rep X.K F τ ρ μ σ H ∧ t E E3 ρ μ ∧ CtD X.K F τ H E D ∧ CtW X F τ H E3 W
abbrev QX (W : WX) (st : Stmt) (t : XSX) : Prop := PS X st (liftSX X W t)
abbrev QXs (W : WX) (sts : List Stmt) (t : XSX) : Prop := PSs X sts (liftSX X W t)
end
section
variable {X : Cx} {W : WX}
theorem CtW.at {F F1 H H1 : Hp} {τ τ1 : List Addr} {E3 : XK3} (c : CtW X F τ H E3 W) (e : Ext F τ H F1 τ1 H1) : CtW X F1 τ1 H1 E3 W := fun x C ρ' σ' μ' F' τ' H' hm e' r q => c x C ρ' σ' μ' F' τ' H' hm (e.trans e') r q
def wCalm (t : XS) : XSX := fun E _ ρ μ => t E ρ μ
theorem qxs_nox {sts : List Stmt} {t : XS} (h : QSs X.nox sts t) : QXs X W sts (wCalm t) := PSs.mono h.nox fun D σ H ⟨ρ, μ, F, τ, E, E3, r, q, c, _⟩ => ⟨ρ, μ, F, τ, E, r, q, c⟩
def wSeqX (t u : XSX) : XSX := fun E E3 ρ μ => t { E with nx := u E E3 } E3 ρ μ
theorem qxs_cons {st : Stmt} {rest : List Stmt} {t u : XSX} (h1 : QX X W st t) (h2 : QXs X W rest u) : QXs X W (st :: rest) (wSeqX t u) := PSs.mono (pss_cons h1 h2) fun D σ H ⟨ρ, μ, F, τ, E, E3, r, q, c, cw⟩ =>
  ⟨ρ, μ, F, τ, _, E3, r, q, ⟨fun ρ' σ' μ' F' τ' H' e rh rs l q' => ⟨ρ', μ', F', τ', E, E3, ⟨rh, rs, l⟩, q', c.at e, cw.at e⟩, c.rt, c.bk, c.ct⟩, cw⟩
theorem qxs_one {st : Stmt} {t : XSX} (h : QX X W st t) : QXs X W [st] t := pss_one h
theorem qxs_nil : QXs X W [] (wCalm wNext) := PSs.mono pss_nil fun D σ H ⟨ρ, μ, F, τ, E, E3, r, q, c, cw⟩ => r.nx c q
def wIfX (tc : XT) (t u : XSX) : XSX := fun E E3 ρ μ => tc ρ μ fun b μ1 => match b with
  | true => t E E3 ρ μ1
  | false => u E E3 ρ μ1
theorem qx_if {c : Expr} {a b : List Stmt} {tc : XT} {t u : XSX} {pos : Pos} (hc : QT X.nox c tc) (ha : QXs X W a t) (hb : QXs X W b u) : QX X W (.If c a b pos) (wIfX tc t u) := PS.mono (ps_if (PT.nox hc) ha hb) fun D σ H ⟨ρ, μ, F, τ, E, E3, r, q, k, cw⟩ => by
  refine ⟨ρ, μ, F, τ, _, r, q, fun b μ' F' τ' H' x rh q' => ?_⟩
  cases b with
  | true => exact iteT ⟨ρ, μ', F', τ', E, E3, r.at x rh, q', k.at x, cw.at x⟩
  | false => exact iteF ⟨ρ, μ', F', τ', E, E3, r.at x rh, q', k.at x, cw.at x⟩
def wRaise (x : Str) : XSX := fun _ E3 ρ μ => E3 x ρ μ
theorem qx_raise {x : Str} {C : Addr} {bm : List Value} {p pos pos' : Pos} {initId : String} (hc : X.calm = true) (tk : Takes X W) (F : ExcBaseFacts "ValueError" "ValueError.__new__" initId bm) (T : ExcCls X.K X.mg bm x C) (hg : Gl X x := by rfl)
    (hdb : (x == ("__debug__" : Str)) = false := by decide) : QX X W (.Raise (some (.Call (.Name x p) [] [] pos)) none pos') (wRaise x) :=
  PS.mono (ps_raise hc tk (pmk_own0 F T.ex T.g T.kp (raises_own T.sub T.ty) hg hdb)) fun D σ H ⟨ρ, μ, F, τ, E, E3, r, q, k, cw⟩ => cw x C ρ σ μ F τ H T.g (.refl _ _ _) r q
/-! ### a def that may raise -/
def CtE (K : PySem.W.Frag) (mg : Str → Option Value) (F : Hp) (τ : List Addr) (H : Hp) (E3 : Str → Mu → Prop) (E : XK) : Prop := ∀ (x : Str) (C : Addr) μ' F' τ' H', mg x = some (.ref C) → Ext F τ H F' τ' H' → RepH K F' τ' μ' H' → E3 x μ' → E (.ref C) none H'
def liftSpX (K : PySem.W.Frag) (mg : Str → Option Value) (sp : XSpX) : Sp := fun vs H Q E => ∃ us μ F τ Q3 E3, RepH K F τ μ H ∧ RepUs K F τ vs us ∧ sp us μ Q3 E3 ∧ Ct K F τ H Q3 Q ∧ CtE K mg F τ H E3 E
/-- what is let out: the own objects of the def are forgotten -/
def backE (np : Nat) (E3 : Str → Mu → Prop) : XK3 := fun x _ μ => (μ.take np).all (okM np) = true ∧ E3 x (μ.take np)
end
section
variable {P : Program} {w : World} {K : PySem.W.Frag} {mg : Str → Option Value} {base : Heap}
theorem CtE.back {F H : Hp} {τ : List Addr} {E3 : Str → Mu → Prop} {E : XK} (k : CtE K mg F τ H E3 E) : ∀ (x : Str) (C : Addr) ρ' σ' μ' F' τ' H', mg x = some (.ref C) → Ext F τ H F' τ' H' → Rep K F' τ' ρ' μ' σ' H' → backE τ.length E3 x ρ' μ' → E (.ref C) none H' := fun x C ρ' σ' μ' F' τ' H' hm e r ⟨hk, q⟩ => by
  have z := r.trim (k := τ.length) hk
  exact k x C (μ'.take τ.length) F' (τ'.take τ.length) H' hm (e.trim (Nat.le_refl _)) z.h q
theorem fnX {x qual : Str} {st : Stmt} {f : Addr} {fd : FuncData} {N ps : List Str} {k : Nat} {sp : XSpX} {t : XSX} (F : Fun K x qual st f fd) (S : FnScope N ps (defScope st)) (len : ∀ us μ Q E, sp us μ Q E → us.length = ps.length)
    (body : ∀ (cdv : Value) (A : Around) (outer : List Env) (s : Shared) (H : Hp) (E : XK) (W : WX), Room k (A.deeper (envOfC qual (defScope st) s.heap.objs.size f cdv)) → Takes (cxOf (L2.CX P w) P w K mg base N qual (defScope st) f cdv A outer s H E) W →
      QXs (cxOf (L2.CX P w) P w K mg base N qual (defScope st) f cdv A outer s H E) W (defBody st) t)
    (read : ∀ us μ Q E, sp us μ Q E → t { nx := fun _ μ' => back μ.length Q (.fz .non) μ', rt := back μ.length Q } (backE μ.length E) (startR N us) μ) : FnOk P w K mg base (L2.CX P w) (k + 1) f fd ps (liftSpX K mg sp) := by
  refine F.okX S (fun vs H Q E ⟨us, μ, F', τ, Q3, E3, rh, ru, h, _⟩ => by rw [RepUs.length ru]; exact len us μ Q3 E3 h) fun cdv A outer s H vs Q E hr ⟨us, μ, F', τ, Q3, E3, rh, ru, h, k, ke⟩ => ?_
  obtain ⟨rs, rl⟩ := start_rep (N := N) ru
  have kb := k.back
  have ke' := ke.back
  rw [rh.len] at kb ke'
  have tk : Takes (cxOf (L2.CX P w) P w K mg base N qual (defScope st) f cdv A outer s H E) (fun cls d _ H => E cls d H) := takes_of rfl rfl rfl rfl
  refine ⟨_, body cdv A outer s H E _ hr tk, startR N us, μ, F', τ, _, _, ⟨rh, rs, rl⟩, read us μ Q3 E3 h, ⟨?_, kb, fun ρ' σ' μ' F' τ' H' _ _ _ _ q => q.elim, fun ρ' σ' μ' F' τ' H' _ _ _ _ q => q.elim⟩, ?_⟩
  · exact fun ρ' σ' μ' F2 τ' H' e r _ _ q => kb _ _ μ' F2 τ' H' e r (RepU.fz .non) q
  · exact fun x C ρ' σ' μ' F2 τ' H' hm e r q => ke' x C ρ' σ' μ' F2 τ' H' hm e r q
end
/-! ### calls of defs that may raise -/
section
variable (X : Cx)
def CtWE (ρ : Rho) (σ : Sl) (F : Hp) (τ : List Addr) (H : Hp) (E3 : Str → Mu → Prop) (W : WX) : Prop := ∀ (x : Str) (C : Addr) μ' F' τ' H', X.mg x = some (.ref C) → Ext F τ H F' τ' H' → Rep X.K F' τ' ρ μ' σ H' → E3 x μ' → W (.ref C) none σ H'
def liftEX (W : WX) (t : XEX) : TE := fun σ H R => ∃ ρ μ F τ Q E3, Rep X.K F τ ρ μ σ H ∧ t ρ μ Q E3 ∧ Ct X.K F τ H Q R ∧ CtWE X ρ σ F τ H E3 W
abbrev QEX (W : WX) (e : Expr) (t : XEX) : Prop := PE X e (liftEX X W t)
end
def wFnX (sp : XSpX) (t : XA) : XEX := fun ρ μ Q E3 => t ρ μ fun us μ1 => ((ptrs us).Nodup ∧ (ptrs us).all (okArg μ1) = true) ∧
  sp (numb 0 us) ((ptrs us).map (objAt μ1)) (fun u μ' => ((ptrs us).length ≤ μ'.length ∧ μ'.all (okM 0) = true) ∧ Q (backU (ptrs us) μ1.length u) (putAll (ptrs us) μ' μ1)) (fun x μ' => ((ptrs us).length ≤ μ'.length ∧ μ'.all (okM 0) = true) ∧ E3 x (putAll (ptrs us) μ' μ1))
/-- a def of the text that may raise -/
structure DefOkX (P : Program) (w : World) (K : PySem.W.Frag) (mg : Str → Option Value) (base : Heap) (k : Nat) (x : Str) (ps : List Str) (sp : XSpX) : Prop where
  ex : ∃ (f : Addr) (fd : FuncData), FnOk P w K mg base (L2.CX P w) k f fd ps (liftSpX K mg sp) ∧ mg x = some (.ref f) ∧ PySem.W.keepIn K (.ref f) = true ∧ Binds K fd ps []
theorem DefOkX.mono {P : Program} {w : World} {K : PySem.W.Frag} {mg : Str → Option Value} {base : Heap} {j k : Nat} {x : Str} {ps : List Str} {sp : XSpX} (d : DefOkX P w K mg base j x ps sp) (h : j ≤ k) : DefOkX P w K mg base k x ps sp := by
  obtain ⟨f, fd, G, h1, h2, h3⟩ := d.ex
  exact ⟨f, fd, G.mono h, h1, h2, h3⟩
section
variable {X : Cx} {W : WX}
theorem callX_lift {sp : XSpX} {t : XA} {σ : Sl} {H : Hp} {R : VK} (h : liftEX X W (wFnX sp t) σ H R) : tCallS (liftSpX X.K X.mg sp) (WE W) (liftA X.K t) σ H R := by
  obtain ⟨ρ, μ, F, τ, Q, E3, r, q, k, ke⟩ := h
  refine ⟨ρ, μ, F, τ, _, r, q, fun us vs μ1 F1 τ1 H1 e1 r1 rus q1 => ?_⟩
  obtain ⟨⟨nd, ok⟩, q1⟩ := q1
  obtain ⟨τc, hl, ht, rc, ruc⟩ := call_pre r1 rus nd ok
  refine ⟨numb 0 us, _, F1, τc, _, _, rc, ruc, q1, call_post r1 (k.at e1) nd hl ht ok, fun x C μ' F' τ' H' hm e rh z => ?_⟩
  have kx : Ct X.K F1 τ1 H1 (fun _ μ => E3 x μ) (fun _ H' => W (.ref C) none σ H') := fun u v μ2 F2 τ2 H2 e2 r2 _ q2 => ke x C μ2 F2 τ2 H2 hm (e1.trans e2) ((r.at e1 r1).at e2 r2) q2
  exact call_post r1 kx nd hl ht ok (.fz .non) .non μ' F' τ' H' e rh (RepU.fz .non) z
theorem qe_defX {k : Nat} {ps : List Str} {sp : XSpX} {x : Str} {p pos : Pos} {e : Expr} {es : List Expr} {t : XA} (G : DefOkX X.prog X.w X.K X.mg X.base k x ps sp) (hr : Room k X.A) (tk : Takes X W) (ha : QA X (e :: es) t) (hg : Gl X x := by rfl)
    (hdb : (x == ("__debug__" : Str)) = false := by decide) (he : starEach (e :: es) X.env = (false, eval e X.env) :: starEach es X.env := by rfl) (hpl : (backTo pos (starEach es X.env)).any (·.1) = false := by rfl) :
    QEX X W (.Call (.Name x p) (e :: es) [] pos) (wFnX sp t) := by
  obtain ⟨f, fd, G, h1, h2, h3⟩ := G.ex
  exact PE.mono (pe_callS G hr hg h1 h2 h3 (passAt tk) ha hdb he hpl) fun _ _ _ h => callX_lift h
theorem CtWE.of {ρ : Rho} {σ : Sl} {F H : Hp} {τ : List Addr} {E3 : XK3} (c : CtW X F τ H E3 W) : CtWE X ρ σ F τ H (fun x μ => E3 x ρ μ) W := fun x C μ' F' τ' H' hm e r q => c x C ρ σ μ' F' τ' H' hm e r q
def wDropX (te : XEX) : XSX := fun E E3 ρ μ => te ρ μ (fun _ μ1 => E.nx ρ μ1) fun x μ1 => E3 x ρ μ1
def wRetX (te : XEX) : XSX := fun E E3 ρ μ => te ρ μ E.rt fun x μ1 => E3 x ρ μ1
theorem qx_expr {e : Expr} {te : XEX} {pos : Pos} (he : QEX X W e te) (hs : swapsWith e none pos.line X.env = pure false := by rfl) : QX X W (.Expr e pos) (wDropX te) := PS.mono (ps_expr he hs) fun D σ H ⟨ρ, μ, F, τ, E, E3, r, q, c, cw⟩ =>
  ⟨ρ, μ, F, τ, _, _, r, q, fun u v μ' F' τ' H' x rh ru q' => (r.at x rh).nx (c.at x) q', CtWE.of cw⟩
theorem qx_ret {e : Expr} {te : XEX} {pos : Pos} (he : QEX X W e te) : QX X W (.Return (some e) pos) (wRetX te) := PS.mono (ps_ret he) fun D σ H ⟨ρ, μ, F, τ, E, E3, r, q, c, cw⟩ => ⟨ρ, μ, F, τ, _, _, r, q, c.rt, CtWE.of cw⟩
theorem qxs_never {sts : List Stmt} : QXs X W sts (fun _ _ _ _ => False) := PSs.mono pss_never fun D σ H ⟨ρ, μ, F, τ, E, E3, r, q, c, cw⟩ => q
/-! ### try, with a clause for one own class -/
def wTry (x : Str) (tb : XSX) (th : XS) : XS := fun E ρ μ => tb E (fun y ρ' μ' => y = x ∧ th E ρ' μ') ρ μ
theorem qs_try {x : Str} {C : Addr} {bm : List Value} {body suite : List Stmt} {b₀ : Stmt} {np pos pos' : Pos} {tb : XSX} {th : XS} (hs : X.stack = X.env :: X.outer) (hf : X.env.frame = some X.env.locals) (T : ExcCls X.K X.mg bm x C)
    (hb : ∀ (W : WX) (pn : List (Addr × Obj)) (xe : Value → Shared → Prop), Takes (X.tr pn xe) W → QXs (X.tr pn xe) W body tb)
    (hsu : ∀ (a : Addr) (pn : List (Addr × Obj)), QSs (X.suite a pn) (b₀ :: suite) th) (hg : Gl X x := by rfl) (hdb : (x == ("__debug__" : Str)) = false := by decide) :
    QS X (.Try body [.ExceptHandler (some (.Name x np)) none (b₀ :: suite) pos'] [] [] pos) (wTry x tb th) :=
  PS.mono (ps_try_only (c := .ref C) (Wout := fun _ _ _ _ => False) (tb := fun W => liftSX X W tb) (ts := fun _ _ _ => liftS X.K th) hs hf ⟨hg, hdb, .inl T.g⟩ takes0 (fun W pn xe tk _ => hb W pn xe tk) (fun a oe cls d pn _ _ => hsu a _)) fun D σ H ⟨ρ, μ, F, τ, E, r, q, c⟩ => by
    refine ⟨ρ, μ, F, τ, E, _, r, q, c, fun y C' ρ' σ' μ' F' τ' H' hm e r' z => ?_⟩
    obtain ⟨rfl, z⟩ := z
    have eC : C' = C := by
      have := hm.symm.trans T.g
      cases this
      rfl
    subst eC
    exact ⟨true, T.me, fun _ a ha => ⟨ρ', μ', F', τ', E, r', z, c.at e⟩, fun h => by cases h⟩
end
end W3
set_option maxHeartbeats 4000000
namespace CB
open PySem PySem.Spec PyProof.Rows L2 W3
local macro_rules | `(tactic| walk_at "ev") => `(tactic| conv => whnf)
/-! ### the box of a law and what is taken from it: the same in each law -/
def natD (n : Nat) : D := .int (n : Int)
def boxU (a b c : Int) (xs : List Int) : MO := .lst [.fz (.int a), .fz (.int b), .fz (.int c), .fz (.lst (xs.map .int))]
structure BoxOk (a b c : Int) (xs : List Int) : Prop where
  a0 : 0 ≤ a
  c0 : 0 ≤ c
  x0 : ∀ x ∈ xs, 0 ≤ x
def sp__law_box : XSp := fun us μ Q => ∃ ns : List Int, us = [.fz (.slst (ns.map .int))] ∧ μ = [] ∧ ns.length ≤ 63 ∧ ∀ xs, BoxOk 0 0 0 xs → Q (.ptr 0) [boxU 0 0 0 xs]
def sp__law_take : XSp := fun us μ Q => ∃ a b c xs m, us = [.ptr 0, .fz (.int m)] ∧ μ = [boxU a b c xs] ∧ BoxOk a b c xs ∧ 0 < m ∧ m ≤ 10000000 ∧ ∀ (t : Nat) a' b' c', (t : Int) < m → BoxOk a' b' c' xs → Q (.fz (natD t)) [boxU a' b' c' xs]
def tk_box : XS :=
  (wRet (wLst true (wCons (wC (.int 0)) (wCons (wC (.int 0)) (wCons (wC (.int 0)) (wCons (wLc false (xSeq (wVar 0)) (gSet 1) wYes (wCall (c1 oAbs) (wCons (wCall (c1 oInt) (wCons (wVar 1) wNil)) wNil)) [1]) wNil))))))
theorem rk_box : RdRaw sp__law_box ["script", "x"] tk_box := by
  rintro us μ Q ⟨ns, rfl, rfl, hl, q⟩
  walk_at "ev"
  rw [List.map_map]
  refine ⟨small (by rw [List.length_map]; omega), ?_⟩
  refine compX_map (fun i => .int (if i < 0 then -i else i)) ns (fun i hi Kt Kf k => k) ?_
  walk_at "ev"
  refine ⟨small (by show 4 ≤ 10000; omega), ?_⟩
  have := q (ns.map fun i => if i < 0 then -i else i) ⟨Int.le_refl _, Int.le_refl _, fun x m => by
    obtain ⟨i, _, rfl⟩ := List.mem_map.mp m
    split <;> omega⟩
  unfold boxU at this
  rw [List.map_map] at this
  exact this
def tk_rest : XS :=
  (wSeq (wIfS (wB (w2 (oGt) (w2 oIx (wVar 0) (wC (.int 1))) (wC (.int 0)))) (wSeq (wSet 4 (w2 (oMod) (wCall (c1 oInt) (wCons (w2 oIx (wVar 0) (wC (.int 0))) wNil)) (wVar 1)))
  (wSeq (wAsg (w2 (oFdiv) (w2 oIx (wVar 0) (wC (.int 0))) (wVar 1)) (gSubX (wVar 0) (wC (.int 0))))
  (wSeq (wAsg (wIf (wB (w2 (oGt) (w2 oIx (wVar 0) (wC (.int 0))) (wC (.int 0)))) (w2 (oSub) (w2 oIx (wVar 0) (wC (.int 1))) (wC (.int 1))) (wC (.int 0))) (gSubX (wVar 0) (wC (.int 1))))
  (wRet (wVar 4))))) wNext)
  (wSeq (wAsg (w2 (oAdd false) (w2 oIx (wVar 0) (wC (.int 1))) (wC (.int 1))) (gSubX (wVar 0) (wC (.int 1))))
  (wSeq (wAsg (w2 (oMod) (wCall (c1 oInt) (wCons (w2 (oAdd false) (w2 (oMul false) (w2 oIx (wVar 0) (wC (.int 0))) (wC (.int 48271))) (w2 (oMul false) (wC (.int 69621)) (w2 (oAdd false) (w2 oIx (wVar 0) (wC (.int 1))) (wC (.int 20))))) wNil)) (wC (.int 2147483647))) (gSubX (wVar 0) (wC (.int 0))))
  (wRet (w2 (oMod) (w2 (oMod) (wCall (c1 oInt) (wCons (w2 (oAdd false) (w2 (oFdiv) (w2 oIx (wVar 0) (wC (.int 0))) (wC (.int 7))) (w2 oIx (wVar 0) (wC (.int 0)))) wNil)) (wC (.int 1000003))) (wVar 1))))))
def tk_take : XS :=
  (wSeq (wIfS (wB (w2 (oEq false) (w2 oIx (wVar 0) (wC (.int 1))) (wC (.int 0)))) (wSeq (wSet 2 (w2 oIx (wVar 0) (wC (.int 2))))
  (wSeq (wSet 3 (wC (.int 0)))
  (wSeq (wIfS (wB (w2 (oLt) (wVar 2) (wCall (c1 oLen) (wCons (w2 oIx (wVar 0) (wC (.int 3))) wNil)))) (wSeq (wSet 3 (w2 oIx (w2 oIx (wVar 0) (wC (.int 3))) (wVar 2)))
  (wAsg (wIf (wB (w2 (oGe) (wVar 3) (w2 (oPow) (wC (.int 10)) (wC (.int 18))))) (wC (.int 60)) (w1 oNeg (wC (.int 9)))) (gSubX (wVar 0) (wC (.int 1))))) wNext)
  (wSeq (wAsg (w2 (oAdd false) (wVar 2) (wC (.int 1))) (gSubX (wVar 0) (wC (.int 2))))
  (wSeq (wAsg (wVar 3) (gSubX (wVar 0) (wC (.int 0))))
  (wIfS (wB (w2 (oEq false) (w2 oIx (wVar 0) (wC (.int 1))) (wC (.int 0)))) (wRet (wC (.int 0))) wNext)))))) wNext)
  tk_rest)
section
variable {m : Int} {xs : List Int} {Q : UK}
theorem rk_rest (m0 : 0 < m) (m1 : m ≤ 10000000) (q : ∀ (t : Nat) a' b' c', (t : Int) < m → BoxOk a' b' c' xs → Q (.fz (natD t)) [boxU a' b' c' xs]) {nx bk ct : Rho → Mu → Prop} (a b c : Int) (h : BoxOk a b c xs) (o2 o3 o4 : Option U) :
    tk_rest ⟨nx, back 1 Q, bk, ct⟩ [some (.ptr 0), some (.fz (.int m)), o2, o3, o4] [boxU a b c xs] := by
  have hlog : m.natAbs.log2 < 9000 := by
    have : m.natAbs ≠ 0 := by omega
    exact Nat.lt_of_lt_of_le ((Nat.log2_lt this).mpr (show m.natAbs < 2 ^ 24 by omega)) (by decide)
  have fin : ∀ (v a' b' c' : Int), 0 ≤ v → v < m → BoxOk a' b' c' xs → back 1 Q (.fz (.int v)) [boxU a' b' c' xs] := fun v a' b' c' h1 h2 h3 => by
    refine ⟨rfl, ?_⟩
    have := q v.toNat a' b' c' (by omega) h3
    unfold natD at this
    rw [Int.toNat_of_nonneg h1] at this
    exact this
  walk_at "ev"
  refine ⟨.fz (.int b), rfl, ?_⟩
  walk_at "ev"
  by_cases hb : 0 < b
  · refine ifT (decide_eq_true hb) ?_
    walk_at "ev"
    refine ⟨.fz (.int a), rfl, ?_⟩
    walk_at "ev"
    refine ⟨m0, ?_⟩
    walk_at "ev"
    refine ⟨.fz (.int a), rfl, ?_⟩
    walk_at "ev"
    refine ⟨⟨m0, hlog⟩, ?_⟩
    walk_at "ev"
    refine ⟨0, rfl, ?_⟩
    walk_at "ev"
    refine ⟨.fz (.int (a / m)), rfl, ?_⟩
    walk_at "ev"
    have ok : ∀ b', BoxOk (a / m) b' c xs := fun b' => ⟨Int.ediv_nonneg h.a0 (by omega), h.c0, h.x0⟩
    have e1 := Int.emod_nonneg a (show m ≠ 0 by omega)
    have e2 := Int.emod_lt_of_pos a m0
    by_cases ha : 0 < a / m
    · refine ifT (decide_eq_true ha) ?_
      walk_at "ev"
      refine ⟨.fz (.int b), rfl, ?_⟩
      walk_at "ev"
      refine ⟨1, rfl, ?_⟩
      walk_at "ev"
      exact fin _ _ _ _ e1 e2 (ok (b - 1))
    · refine ifF (decide_eq_false ha) ?_
      walk_at "ev"
      refine ⟨1, rfl, ?_⟩
      walk_at "ev"
      exact fin _ _ _ _ e1 e2 (ok 0)
  · refine ifF (decide_eq_false hb) ?_
    walk_at "ev"
    refine ⟨.fz (.int b), rfl, ?_⟩
    walk_at "ev"
    refine ⟨1, rfl, ?_⟩
    walk_at "ev"
    refine ⟨.fz (.int a), rfl, ?_⟩
    walk_at "ev"
    refine ⟨.inl (.inr (by decide)), ?_⟩
    walk_at "ev"
    refine ⟨.fz (.int (b + 1)), rfl, ?_⟩
    walk_at "ev"
    refine ⟨.inl (.inl (by decide)), ?_⟩
    walk_at "ev"
    refine ⟨by decide, ?_⟩
    walk_at "ev"
    refine ⟨0, rfl, ?_⟩
    walk_at "ev"
    refine ⟨.fz (.int ((a * 48271 + 69621 * (b + 1 + 20)) % 2147483647)), rfl, ?_⟩
    walk_at "ev"
    refine ⟨⟨by decide, by decide +kernel⟩, ?_⟩
    walk_at "ev"
    refine ⟨.fz (.int ((a * 48271 + 69621 * (b + 1 + 20)) % 2147483647)), rfl, ?_⟩
    walk_at "ev"
    refine ⟨by decide, ?_⟩
    walk_at "ev"
    refine ⟨m0, ?_⟩
    exact fin _ _ _ _ (Int.emod_nonneg _ (by omega)) (Int.emod_lt_of_pos _ m0) ⟨Int.emod_nonneg _ (by omega), h.c0, h.x0⟩
end
theorem rk_take : Rd sp__law_take ["box", "m", "at", "cell", "told"] tk_take := by
  rintro us μ Q ⟨a, b, c, xs, m, rfl, rfl, h, m0, m1, q⟩
  walk_at "ev"
  refine ⟨.fz (.int b), rfl, ?_⟩
  walk_at "ev"
  by_cases hb : b = 0
  · refine ifT (decT hb) ?_
    walk_at "ev"
    refine ⟨.fz (.int c), rfl, ?_⟩
    walk_at "ev"
    refine ⟨.fz (.lst (xs.map .int)), rfl, ?_⟩
    walk_at "ev"
    have fin0 : ∀ (a' b' c' : Int), BoxOk a' b' c' xs → back 1 Q (.fz (.int 0)) [boxU a' b' c' xs] := fun a' b' c' h3 => ⟨rfl, q 0 a' b' c' m0 h3⟩
    by_cases hc : c < ((xs.map D.int).length : Int)
    · refine ifT (decide_eq_true hc) ?_
      walk_at "ev"
      refine ⟨.fz (.lst (xs.map .int)), rfl, ?_⟩
      walk_at "ev"
      rw [List.length_map] at hc
      have hc0 := h.c0
      have hcn : c.toNat < xs.length := by omega
      have hv := h.x0 _ (List.getElem_mem hcn)
      refine ⟨.int xs[c.toNat], ?_, ?_⟩
      · have := atI_map (f := D.int) (List.getElem?_eq_getElem hcn)
        rw [Int.toNat_of_nonneg hc0] at this
        exact this
      walk_at "ev"
      refine ⟨⟨by decide, by decide, by decide⟩, ?_⟩
      walk_at "ev"
      have rest : ∀ b', b' ≠ 0 → True := fun _ _ => trivial
      by_cases hg : (10 : Int) ^ (18 : Int).toNat ≤ xs[c.toNat]
      · refine ifT (decide_eq_true hg) ?_
        walk_at "ev"
        refine ⟨1, rfl, ?_⟩
        walk_at "ev"
        refine ⟨2, rfl, ?_⟩
        walk_at "ev"
        refine ⟨0, rfl, ?_⟩
        walk_at "ev"
        refine ⟨.fz (.int 60), rfl, ?_⟩
        walk_at "ev"
        exact rk_rest m0 m1 q xs[c.toNat] 60 (c + 1) ⟨hv, by omega, h.x0⟩ _ _ _
      · refine ifF (decide_eq_false hg) ?_
        walk_at "ev"
        refine ⟨1, rfl, ?_⟩
        walk_at "ev"
        refine ⟨2, rfl, ?_⟩
        walk_at "ev"
        refine ⟨0, rfl, ?_⟩
        walk_at "ev"
        refine ⟨.fz (.int (-9)), rfl, ?_⟩
        walk_at "ev"
        exact rk_rest m0 m1 q xs[c.toNat] (-9) (c + 1) ⟨hv, by omega, h.x0⟩ _ _ _
    · refine ifF (decide_eq_false hc) ?_
      walk_at "ev"
      refine ⟨2, rfl, ?_⟩
      walk_at "ev"
      refine ⟨0, rfl, ?_⟩
      walk_at "ev"
      refine ⟨.fz (.int b), rfl, ?_⟩
      walk_at "ev"
      refine ifT (decT hb) ?_
      have hc0 := h.c0
      exact fin0 0 b (c + 1) ⟨by decide, by omega, h.x0⟩
  · refine ifF (decF hb) ?_
    exact rk_rest m0 m1 q a b c h _ _ _
/-! ### rows of numbers, compared -/
def pyR (r : List Nat) : List PyData := r.map fun (n : Nat) => .int (n : Int)
theorem toPys_nat : ∀ r : List Nat, toPys (r.map natD) = some (pyR r)
  | [] => by simp only [List.map_nil, toPys]; rfl
  | n :: r => by simp only [List.map_cons, toPys, natD, toPy]; rw [show List.map natD r = List.map natD r from rfl, toPys_nat r]; rfl
theorem lay_nat : ∀ r : List Nat, PyData.canLayAll0 (pyR r) = true
  | [] => by simp [pyR, PyData.canLayAll0]
  | n :: r => by
    have := lay_nat r
    unfold pyR at this ⊢
    simp [PyData.canLayAll0, PyData.canLay0, this]
theorem dep_nat : ∀ r : List Nat, PyData.depthAll (pyR r) ≤ 1
  | [] => by simp [pyR, PyData.depthAll]
  | n :: r => by
    have := dep_nat r
    unfold pyR at this ⊢
    simp [PyData.depthAll, PyData.depth]
    omega
theorem shaped_int (i : Int) : SeqAt.shaped (.int i) = true := by unfold SeqAt.shaped; simp [PyData.canLay0, PyData.depth]
theorem shaped_natL (r : List Nat) : SeqAt.shaped (.list (pyR r)) = true := by
  have h1 := lay_nat r
  have h2 := dep_nat r
  unfold SeqAt.shaped
  simp [PyData.canLay0, PyData.depth, h1]
  omega
theorem shaped_natT (r : List Nat) : SeqAt.shaped (.tuple (pyR r)) = true := by
  have h1 := lay_nat r
  have h2 := dep_nat r
  unfold SeqAt.shaped
  simp [PyData.canLay0, PyData.depth, h1]
  omega
theorem any_nat (r : List Nat) (k : Nat) : ((pyR r).any fun z => PyData.eqv z (.int (k : Int))) = decide (k ∈ r) := by
  unfold pyR
  rw [List.any_map]
  apply Bool.eq_iff_iff.mpr
  rw [List.any_eq_true, decide_eq_true_eq]
  constructor
  · rintro ⟨n, m, h⟩
    have h : PyData.eqv (.int (n : Int)) (.int (k : Int)) = true := h
    simp only [PyData.eqv, beq_iff_eq] at h
    have : n = k := by omega
    exact this ▸ m
  · intro m
    refine ⟨k, m, ?_⟩
    show PyData.eqv (.int (k : Int)) (.int (k : Int)) = true
    simp [PyData.eqv]
/-- k in a list or a tuple of numbers -/
theorem in_row (r : List Nat) (k : Nat) (b : Bool) {Q : Bool → Prop} (h : Q (if b then !decide (k ∈ r) else decide (k ∈ r))) : ∃ p s ps, toPy (natD k) = some p ∧ toPy (.lst (r.map natD)) = some s ∧ unList s = some ps ∧ SeqAt.shaped p = true ∧ SeqAt.shaped s = true ∧ Q (if b then !ps.any fun z => PyData.eqv z p else ps.any fun z => PyData.eqv z p) := by
  refine ⟨.int k, .list (pyR r), pyR r, rfl, by unfold toPy; rw [toPys_nat]; rfl, rfl, shaped_int _, shaped_natL r, ?_⟩
  rw [any_nat]; exact h
theorem in_rowT (r : List Nat) (k : Nat) (b : Bool) {Q : Bool → Prop} (h : Q (if b then !decide (k ∈ r) else decide (k ∈ r))) : ∃ p s ps, toPy (natD k) = some p ∧ toPy (.tup (r.map natD)) = some s ∧ unList s = some ps ∧ SeqAt.shaped p = true ∧ SeqAt.shaped s = true ∧ Q (if b then !ps.any fun z => PyData.eqv z p else ps.any fun z => PyData.eqv z p) := by
  refine ⟨.int k, .tuple (pyR r), pyR r, rfl, by unfold toPy; rw [toPys_nat]; rfl, rfl, shaped_int _, shaped_natT r, ?_⟩
  rw [any_nat]; exact h
end CB
set_option maxHeartbeats 2000000
namespace W3
open PySem PySem.Spec PyProof.Rows L2
/-! ### by what a call is refused: a def that calls what it got within a try of several clauses -/
def clW (K : PySem.W.Frag) (R : VK) : List (Addr × Str) → Value → Hp → Prop
  | [], _, _ => False
  | (C, r) :: l, cls, H => ∃ b, PySem.W.exmOne K cls (.ref C) = some b ∧ (b = true → R (.str r) H) ∧ (b = false → clW K R l cls H)
def ttMany (K : PySem.W.Frag) (l : List (Addr × Str)) (fin : Str) : (XK → Hp → VK → Prop) → Hp → VK → Prop := fun tl H R => tl (fun cls _ H' => clW K R l cls H') H (fun _ H' => R (.str fin) H')
/-- the classes and what is told of them -/
structure Refs (K : PySem.W.Frag) (mg : Str → Option Value) (l : List (Addr × Str)) (rets : List (Str × Str)) : Prop where
  of : ∀ (x r : Str) (C : Addr) (R : VK) (H : Hp), rets.lookup x = some r → mg x = some (.ref C) → R (.str r) H → clW K R l (.ref C) H
structure GiverOk (P : Program) (w : World) (K : PySem.W.Frag) (mg : Str → Option Value) (x : Str) (rets : List (Str × Str)) (fin : Str) : Prop where
  ex : ∃ (a : Str) (g : Addr) (pg : Arguments) (bg : List Stmt) (sg : Scope) (dV kV doc pm cdv ct oc : Value) (an od : Option Addr) (osl : Array (Option Value)) (Ng : List Str) (l : List (Addr × Str)),
    mg x = some (.ref g) ∧ PySem.W.keepIn K (.ref g) = true ∧ K.lookup g = some ⟨oc, od, .func (PySem.W.fnOf x x pg bg sg dV kV doc pm an cdv ct), osl⟩ ∧ PySem.W.codeIn K cdv x = true ∧
    L2.Binds K (PySem.W.fnOf x x pg bg sg dV kV doc pm an cdv ct) [a] [] ∧ FnScope Ng [a] sg ∧ Ng[0]? = some a ∧ Vis sg a ∧ ((a == ("__debug__" : Str)) = false ∧ (a == ("__classdict__" : Str)) = false) ∧ Refs K mg l rets ∧
    ∀ (X : Cx) (q : Str), X.prog = P → X.w = w → X.K = K → X.mg = mg → LamX.GivesTo X Ng x sg g cdv bg a q (ttMany K l fin)
def noTab : MO → Bool
  | .tab _ _ _ => false
  | _ => true
/-- x(lambda: body): what the def tells, by what the body raises -/
def wLam (q : Str) (rets : List (Str × Str)) (fin : Str) (te : XEX) : XE := fun ρ μ Q =>
  (∃ P r, μ = .tab 0 P q :: r) ∧ te ρ μ (fun _ μ1 => Q (.fz (.str fin)) μ1) (fun x μ1 => ∃ r, rets.lookup x = some r ∧ Q (.fz (.str r)) μ1)
theorem codeO_ne_tbl {c : Addr} {q : Str} : ∀ ps, LamX.CodeO c q ≠ .tbl ps := fun ps => LamX.codeO_ne ps
/-- the table grows by a new code object -/
theorem RepH.grow {K : PySem.W.Frag} {F H : Hp} {τ : List Addr} {r : List MO} {P : Addr} {q : Str} (rh : RepH K F τ (.tab 0 P q :: r) H) {ps : Array Value} (hP : H P = some (.tbl ps)) {pos : Pos} {c' : Addr} (hc : H c' = none) :
    ∃ F1, Ext F τ H F1 τ (upd (upd H P (.tbl (ps ++ #[rawInt pos.line, rawInt pos.col, .ref c']))) c' (LamX.CodeO c' q)) ∧ RepH K F1 τ (.tab 0 P q :: r) (upd (upd H P (.tbl (ps ++ #[rawInt pos.line, rawInt pos.col, .ref c']))) c' (LamX.CodeO c' q)) := by
  obtain ⟨P', hτ⟩ : ∃ P', τ[0]? = some P' := by
    have := rh.len
    cases τ with
    | nil => simp at this
    | cons a t => exact ⟨a, rfl⟩
  obtain ⟨o, ho, ro⟩ := rh.obj 0 P' (.tab 0 P q) hτ rfl (by intro z; cases z)
  cases o <;> first | exact ro.elim | skip
  rename_i ps'
  obtain ⟨h1, h2, h3, h4⟩ := ro
  rw [hτ] at h1
  cases h1
  rw [hP] at ho
  cases ho
  have nPc : P ≠ c' := ne_of_none hP hc
  have e1 := Ext.newF (F := F) (τ := τ) (LamX.CodeO c' q) (rh.dom c' hc) hc
  have r1 := rh.newF (LamX.CodeO c' q) hc codeO_ne_tbl
  have hP1 : upd H c' (LamX.CodeO c' q) P = some (.tbl ps) := by rw [upd_ne nPc]; exact hP
  have eL : (ps ++ #[rawInt pos.line, rawInt pos.col, .ref c']).toList = ps.toList ++ [rawInt pos.line, rawInt pos.col, .ref c'] := by simp
  have ro : RepO K (upd F c' (LamX.CodeO c' q)) τ (.tbl (ps ++ #[rawInt pos.line, rawInt pos.col, .ref c'])) (.tab 0 P q) := by
    refine ⟨hτ, by rw [eL]; exact PySem.TriplesOk_snoc _ _ _ _ h2, fun p' cv hcv => ?_, h4⟩
    rw [eL] at hcv
    rcases LamX.among_app _ h2 hcv with z | z
    · obtain ⟨c0, e1, e2⟩ := h3 p' cv z
      exact ⟨c0, e1, by rw [upd_ne (ne_of_none e2 (rh.dom c' hc))]; exact e2⟩
    · exact ⟨c', z, upd_same⟩
  have r2 := r1.setO (n := 0) hτ rfl (by intro z; cases z) ro
  have e2 : Ext (upd F c' (LamX.CodeO c' q)) τ (upd H c' (LamX.CodeO c' q)) _ τ _ := Ext.setO (n := 0) (o := .tbl (ps ++ #[rawInt pos.line, rawInt pos.col, .ref c'])) hτ (by rw [hP1]; intro z; cases z) (fun o u z => by rw [hP1] at z; cases z)
  have eH : upd (upd H c' (LamX.CodeO c' q)) P (.tbl (ps ++ #[rawInt pos.line, rawInt pos.col, .ref c'])) = upd (upd H P (.tbl (ps ++ #[rawInt pos.line, rawInt pos.col, .ref c']))) c' (LamX.CodeO c' q) := by
    funext b
    by_cases q1 : b = P
    · subst q1; rw [upd_same, upd_ne nPc, upd_same]
    · by_cases q2 : b = c'
      · subst q2; rw [upd_ne q1, upd_same, upd_same]
      · rw [upd_ne q1, upd_ne q2, upd_ne q2, upd_ne q1]
  rw [eH] at r2 e2
  exact ⟨_, e1.trans e2, r2⟩
section
variable {X : Cx}
theorem qe_lam {x q : Str} {rets : List (Str × Str)} {fin : Str} {c P : Addr} {k : Nat} {params : Arguments} {body : Expr} {scope : Scope} {te : XEX} {p lpos pos : Pos} (G : GiverOk X.prog X.w X.K X.mg x rets fin) (hq : q = X.env.qual ++ "<lambda>")
    (TB : LamX.TabB X.base X.mg c P) (hT : PySem.W.tabIn X.K "law" = some (c, P)) (hcode : X.env.code = .ref c) (hr : Room (k + 2) X.A) (L : LamX.LamS X.env.scope scope)
    (hbody : ∀ (A : Around) (outer : List Env) (s : Shared) (H : Hp) (E : XK) (f c' : Addr), Room k (A.deeper (LamX.lamEnv X scope s.heap.objs.size f c')) → Takes (LamX.lamCx X A outer s H E scope f c') (fun cls d _ H => E cls d H) →
      QEX (LamX.lamCx X A outer s H E scope f c') (fun cls d _ H => E cls d H) body te)
    (hg : Gl X x := by rfl) (hdef : defaultsOf params X.env = ([], []) := by rfl)
    (hbind : ∀ (q : Str) (cl : List (Str × Addr)) (pm cv ctv : Value), bindArgs (PySem.W.kla_fn "<lambda>" q params body scope cl pm cv ctv) ⟨[], []⟩ = pure [] := by intros; rfl)
    (hdb : (x == ("__debug__" : Str)) = false := by decide) :
    QE X (.Call (.Name x p) [.Lambda params body scope lpos] [] pos) (wLam q rets fin te) := by
  refine ⟨fun pins s σ H R I h => ?_⟩
  obtain ⟨ρ, μ, F, τ, Q, r, ⟨⟨P', rr, hμ⟩, h⟩, k0⟩ := h
  subst hμ
  obtain ⟨a, g, pg, bg, sg, dV, kV, doc, pm, cdv, ct, oc, an, od, osl, Ng, l, hm, hk, lk, hcg, hb, Sg, hNg, hva, ⟨hd, hcd⟩, RF, hG⟩ := G.ex
  obtain ⟨a0, hτ⟩ : ∃ P', τ[0]? = some P' := by
    have := r.h.len
    cases τ with
    | nil => simp at this
    | cons a t => exact ⟨a, rfl⟩
  obtain ⟨o, ho, ro⟩ := r.h.obj 0 a0 (.tab 0 P' q) hτ rfl (by intro z; cases z)
  cases o <;> first | exact ro.elim | skip
  rename_i ps
  obtain ⟨h1, ht, ha, c0, h4⟩ := ro
  rw [hτ] at h1
  cases h1
  rw [hT] at h4
  cases h4
  refine wpAny_Call_Name_kw (ld_glob I hg hm ?_ hdb)
  refine PySem.W.callWith_K (h₀ := X.base) I.ok.mod.kin hk ?_ (by rfl) (by rfl)
  show wpAny _ _ (spliced ((false, eval (.Lambda params body scope lpos) X.env) :: backTo pos (starEach [] X.env))) _ _ s
  have go : ∀ (f c' : Addr) (pm' ctv : Value) (F1 H1 : Hp) (s' : Shared), Inv X pins σ H1 s' → Ext F τ H F1 τ H1 → RepH X.K F1 τ (.tab 0 P q :: rr) H1 →
      s'.heap.get? f = some (PySem.W.kla_obj "<lambda>" q params body scope (cloFrom X.env.cells scope.names []) pm' c' ctv) → H1 f = none → f ∉ frs X.stack → H1 c' = some (LamX.CodeO c' q) →
      wpAny (model X.prog X.w) X.A (call (.ref g) [.ref f]) (EP X pins σ R) X.xe s' := by
    intro f c' pm' ctv F1 H1 s' I1 e1 r1 hf hfn hfr hco
    have rc : codeAny (model X.prog X.w) X.A (.call (.ref g) ⟨[.ref f], []⟩) (CR C8.CX0 X.stack X.prog X.w H1 s' R C8.E0) s' := by
      refine LamX.run_ofS (N := Ng) (ps := [a]) (us := [.ref f]) (vs := [.ref f]) lk hcg Sg hr I1.env0 (hb s' [.ref f] I1.kIn rfl) (.cons rfl .nil) rfl fun hr' => ?_
      have fin_ : ttMany X.K l fin (fun E H' Q' => liftEX X (fun cls d _ H => E cls d H) te σ H' Q') H1 R := by
        refine ⟨ρ, _, F1, τ, _, _, r.at e1 r1, h, fun u v μ' F' τ' H' e2 r2 ru q2 => ?_, fun x C μ' F' τ' H' hmx e2 r2 q2 => ?_⟩
        · exact k0 _ _ μ' F' τ' H' (e1.trans e2) r2 (RepU.fz (.str fin)) q2
        · obtain ⟨rt, hl, q2⟩ := q2
          exact RF.of x rt C R H' hl hmx (k0 _ _ μ' F' τ' H' (e1.trans e2) r2.h (RepU.fz (.str rt)) q2)
      obtain ⟨t', ht', hq'⟩ := hG X q rfl rfl rfl rfl f c' s' H1 R (fun E H' Q' => liftEX X (fun cls d _ H => E cls d H) te σ H' Q') (fun W pn xe E p1 p2 tk hW => by
        subst hq
        exact LamX.pe_act (i := 0) I1 L hf hfn hfr (hbind _ _ _ _ _) tk hW hr' (fun A outer s H hr2 => hbody A outer s H E f c' hr2 (takes_of rfl rfl rfl rfl)) hNg hva hd hcd) hco fin_
      exact ⟨t', ht'.nox, hq'⟩
    refine wpAny_call (codeAny_mono rc fun r s2 hq => ?_)
    cases r with
    | error e => exact (show False from hq).elim
    | ok fl =>
      cases fl with
      | ret u => exact I1.after hq
      | next => exact False.elim hq
      | brk => exact False.elim hq
      | cont => exact False.elim hq
  subst hq
  have nofr : ∀ f, s.heap.objs.size ≤ f → f ∉ frs X.stack := fun f hf z => by
    rcases List.mem_cons.mp (I.stkSub _ z) with e | e
    · have h1 := I.lt
      rw [← e] at h1
      exact Nat.lt_irrefl _ (Nat.lt_of_lt_of_le h1 hf)
    · exact I.nofs hf e
  have hP' : s.heap.get? P = some { cls := .none, data := .fields ps } := I.hok P _ ho
  have bP : s.heap.BuiltinsAt X.mg P := TB.bm.keeps I.bk
  refine Calls.spliced_cons (PySem.W.kla_eval hdef ?_)
  cases hc : codeAmong lpos ps.toList with
  | none =>
    refine PySem.W.kla_makeFunction (mg := X.mg) (c := c) (P := P) (ps := ps) (closure_ok (L.has I.ok)) I.ok.glob (I.mod.glob.keeps I.bk) hcode (TB.code.keeps I.bk) hP' ht hc TB.gP bP fun c' ctv h' tk hx hge hlt hrec htb => ?_
    obtain ⟨c2, oc2, vs, t, e2, hoc, hd2, hv⟩ := hrec
    cases e2
    have hsz : s.heap.objs.size ≤ h'.objs.size := Nat.le_trans hge (Nat.le_of_lt hlt)
    have nC : H c' = none := I.hok.fresh hge
    have I1 := LamX.inv_table (t' := tk) (more := #[rawInt lpos.line, rawInt lpos.col, .ref c']) (h' := h'.push (PySem.W.kla_obj "<lambda>" (X.env.qual ++ "<lambda>") params body scope (cloFrom X.env.cells scope.names []) ((X.mg "__name__").getD .none) c' ctv)) I ho
      (fun b o hb e => Heap.get?_push_of_some _ (hx b o hb e)) (Heap.get?_push_of_some _ htb) hge ⟨oc2, vs, t, Heap.get?_push_of_some _ hoc, hd2, hv⟩
    obtain ⟨F1, e1, r1⟩ := r.h.grow ho (pos := lpos) nC
    refine Calls.spliced_nil ⟨I1.kIn, go h'.objs.size c' _ ctv F1 _ _ I1 e1 r1 (Heap.get?_push_size _ rfl) ?_ (nofr _ hsz) upd_same⟩
    have n1 : h'.objs.size ≠ c' := Nat.ne_of_gt hlt
    have n2 : h'.objs.size ≠ P := Nat.ne_of_gt (Nat.lt_of_lt_of_le (Heap.lt_size hP') hsz)
    rw [upd_ne n1, upd_ne n2]
    exact I.hok.fresh hsz
  | some cv =>
    obtain ⟨c', e, hco⟩ := ha lpos cv hc
    subst e
    refine PySem.W.kla_makeFunctionHit (mg := X.mg) (c := c) (P := P) (ps := ps) (closure_ok (L.has I.ok)) I.ok.glob (I.mod.glob.keeps I.bk) hcode (TB.code.keeps I.bk) hP' ht hc bP fun ctv h' tk hx hsz => ?_
    have I1 : Inv X pins σ H { s with heap := h'.push (PySem.W.kla_obj "<lambda>" (X.env.qual ++ "<lambda>") params body scope (cloFrom X.env.cells scope.names []) ((X.mg "__name__").getD .none) c' ctv), toks := tk } := I.kept fun b o e => Heap.get?_push_of_some _ (hx b o e)
    exact Calls.spliced_nil ⟨I1.kIn, go h'.objs.size c' _ ctv F H _ I1 (.refl _ _ _) r.h (Heap.get?_push_size _ rfl) (I.hok.fresh hsz) (nofr _ hsz) (r.h.sub.ex _ _ hco)⟩
end
/-! ### the refusal helpers -/
/-- except clauses that tell a text each -/
inductive HdR (sg : Scope) (mg : Str → Option Value) : List ExceptHandler → List (Str × Addr × Str) → Prop
  | nil : HdR sg mg [] []
  | cons {e ret : Str} {C : Addr} {j : Nat} {p4 p5 p6 p7 : Pos} {hds : List ExceptHandler} {cs : List (Str × Addr × Str)} (hg : sg.names.lookup e = some .globalImplicit) (hd : (e == ("__debug__" : Str)) = false) (hm : mg e = some (.ref C)) (r : HdR sg mg hds cs) :
      HdR sg mg (.ExceptHandler (some (.Name e p4)) none [.Return (some (.Constant (.str ret) j p5)) p6] p7 :: hds) ((e, C, ret) :: cs)
theorem HdR.ok {X : Cx} {sg : Scope} (hs : ∀ e, sg.names.lookup e = some .globalImplicit → Gl X e) : ∀ {hds : List ExceptHandler} {cs : List (Str × Addr × Str)}, HdR sg X.mg hds cs → HdsOk X hds (cs.map fun p => (.ref p.2.1, fun _ _ _ => tRet (tC (.str p.2.2))))
  | _, _, .nil => .nil
  | _, _, .cons hg hd hm r => .cons ⟨hs _ hg, hd, .inl hm⟩ (fun a oe cls d pn _ _ => pss_one (ps_ret pe_str)) (HdR.ok hs r)
theorem many_of {K : PySem.W.Frag} {D : Ends} {R : VK} (hD : ∀ v H, R v H → D.rt v H) : ∀ {cs : List (Str × Addr × Str)} {cls : Value} {d : Option Addr} {σ : Sl} {H : Hp}, clW K R (cs.map (·.2)) cls H →
    wMany K (fun _ _ _ _ => False) D (cs.map fun p => (.ref p.2.1, fun _ _ _ => tRet (tC (.str p.2.2)))) cls d σ H
  | [], _, _, _, _, h => h
  | (e, C, r) :: cs, cls, d, σ, H, ⟨b, h1, h2, h3⟩ => ⟨b, h1, fun hb a _ => hD _ _ (h2 hb), fun hb => many_of hD (h3 hb)⟩
/-- try: a() / except ..: return .. / return fin -/
theorem gives_many {X : Cx} {Ng : List Str} {x a q fin : Str} {sg : Scope} {g : Addr} {cdg : Value} {h0 : ExceptHandler} {hds : List ExceptHandler} {cs : List (Str × Addr × Str)} {j9 : Nat} {p1 p2 p3 p8 p9 p10 : Pos} (hh : HdR sg X.mg (h0 :: hds) cs) (h0f : ∀ f : Addr, (L2.start Ng [V.ref f])[0]? = some (some (V.ref f))) :
    LamX.GivesTo X Ng x sg g cdg [.Try [.Expr (.Call (.Name a p1) [] [] p2) p3] (h0 :: hds) [] [] p8, .Return (some (.Constant (.str fin) j9 p9)) p10] a q (ttMany X.K (cs.map (·.2)) fin) := by
  intro f c' s H Q tl act hc h
  refine ⟨_, pss_cons (ps_try_many (X := (cxOf C8.CX0 X.prog X.w X.K X.mg X.base Ng x sg g cdg X.A X.stack s H C8.E0).nox) (Wout := fun _ _ _ _ => False)
      (tb := fun W D σ H => ∃ Ech : XK, (∀ cls d σ' H', Ech cls d H' → W cls d σ' H') ∧ σ[0]? = some (some (.ref f)) ∧ H c' = some (LamX.CodeO c' q) ∧ tl Ech H (fun _ H' => D.nx σ H'))
      rfl rfl LamX.takes0 (fun W pn xe tk _ => ?_) (HdR.ok (X := (cxOf C8.CX0 X.prog X.w X.K X.mg X.base Ng x sg g cdg X.A X.stack s H C8.E0).nox) (sg := sg) (fun e he => he) hh)) (pss_one (ps_ret pe_str)), ?_⟩
  · refine ⟨fun pins s' σ H' D I h' => ?_⟩
    obtain ⟨Ech, hW, h1, h2, h3⟩ := h'
    have hp := act W pn xe Ech p1 p2 tk hW
    have hq := pss_one (ps_expr (pos := p3) hp)
    exact hq.run pins s' σ H' D I ⟨h1, h2, h3⟩
  · refine ⟨fun cls _ H' => clW X.K Q (cs.map Prod.snd) cls H', fun cls d σ' H' hw => ?_, h0f f, hc, h⟩
    exact many_of (K := X.K) (R := Q) (cs := cs) (fun _ _ z => z) hw
/-- try: a(); return fin / except ..: return .. -/
theorem gives_many2 {X : Cx} {Ng : List Str} {x a q fin : Str} {sg : Scope} {g : Addr} {cdg : Value} {h0 : ExceptHandler} {hds : List ExceptHandler} {cs : List (Str × Addr × Str)} {j9 : Nat} {p1 p2 p3 p8 p9 p10 : Pos} (hh : HdR sg X.mg (h0 :: hds) cs) (h0f : ∀ f : Addr, (L2.start Ng [V.ref f])[0]? = some (some (V.ref f))) :
    LamX.GivesTo X Ng x sg g cdg [.Try [.Expr (.Call (.Name a p1) [] [] p2) p3, .Return (some (.Constant (.str fin) j9 p9)) p10] (h0 :: hds) [] [] p8] a q (ttMany X.K (cs.map (·.2)) fin) := by
  intro f c' s H Q tl act hc h
  refine ⟨_, pss_one (ps_try_many (X := (cxOf C8.CX0 X.prog X.w X.K X.mg X.base Ng x sg g cdg X.A X.stack s H C8.E0).nox) (Wout := fun _ _ _ _ => False)
      (tb := fun W D σ H => ∃ Ech : XK, (∀ cls d σ' H', Ech cls d H' → W cls d σ' H') ∧ σ[0]? = some (some (.ref f)) ∧ H c' = some (LamX.CodeO c' q) ∧ tl Ech H (fun _ H' => D.rt (.str fin) H'))
      rfl rfl LamX.takes0 (fun W pn xe tk _ => ?_) (HdR.ok (X := (cxOf C8.CX0 X.prog X.w X.K X.mg X.base Ng x sg g cdg X.A X.stack s H C8.E0).nox) (sg := sg) (fun e he => he) hh)), ?_⟩
  · refine ⟨fun pins s' σ H' D I h' => ?_⟩
    obtain ⟨Ech, hW, h1, h2, h3⟩ := h'
    have hp := act W pn xe Ech p1 p2 tk hW
    have hq := pss_cons (ps_expr (pos := p3) hp) (pss_one (ps_ret (pos := p10) (pe_str (x := fin) (j := j9) (pos := p9))))
    exact hq.run pins s' σ H' D I ⟨h1, h2, h3⟩
  · refine ⟨fun cls _ H' => clW X.K Q (cs.map Prod.snd) cls H', fun cls d σ' H' hw => ?_, h0f f, hc, h⟩
    exact many_of (K := X.K) (R := Q) (cs := cs) (fun _ _ z => z) hw
/-- the classes of the clauses -/
def exmNo (K : PySem.W.Frag) (C : Addr) : List (Str × Addr × Str) → Prop
  | [] => True
  | p :: cs => PySem.W.exmOne K (.ref p.2.1) (.ref C) = some false ∧ exmNo K C cs
inductive RefCs (K : PySem.W.Frag) (mg : Str → Option Value) : List (Str × Addr × Str) → Prop
  | nil : RefCs K mg []
  | cons {e r : Str} {C : Addr} {cs : List (Str × Addr × Str)} (hm : mg e = some (.ref C)) (me : PySem.W.exmOne K (.ref C) (.ref C) = some true) (no : exmNo K C cs) (t : RefCs K mg cs) : RefCs K mg ((e, C, r) :: cs)
theorem RefCs.mg {K : PySem.W.Frag} {mg : Str → Option Value} : ∀ {cs : List (Str × Addr × Str)}, RefCs K mg cs → ∀ p ∈ cs, mg p.1 = some (.ref p.2.1)
  | _, .nil, _, h => by cases h
  | _, .cons hm me no t, p, h => by
    rcases List.mem_cons.mp h with rfl | h
    · exact hm
    · exact t.mg p h
theorem exmNo.at {K : PySem.W.Frag} {C : Addr} : ∀ {cs : List (Str × Addr × Str)}, exmNo K C cs → ∀ p ∈ cs, PySem.W.exmOne K (.ref p.2.1) (.ref C) = some false
  | _ :: _, h, p, hp => by
    rcases List.mem_cons.mp hp with rfl | hp
    · exact h.1
    · exact h.2.at p hp
theorem look_ret {x r : Str} : ∀ {cs : List (Str × Addr × Str)}, (cs.map fun p => (p.1, p.2.2)).lookup x = some r → ∃ C, (x, C, r) ∈ cs
  | [], h => by cases h
  | (e, C, r') :: cs, h => by
    rw [List.map_cons, List.lookup_cons] at h
    cases q : (x == e) with
    | true =>
      rw [q] at h
      cases h
      rw [eq_of_beq q]
      exact ⟨C, .head _⟩
    | false =>
      rw [q] at h
      obtain ⟨C, m⟩ := look_ret h
      exact ⟨C, .tail _ m⟩
theorem RefCs.refs {K : PySem.W.Frag} {mg : Str → Option Value} : ∀ {cs : List (Str × Addr × Str)}, RefCs K mg cs → Refs K mg (cs.map (·.2)) (cs.map fun p => (p.1, p.2.2))
  | _, .nil => ⟨fun x r C R H h _ _ => by cases h⟩
  | _, .cons (e := e) (r := r0) (C := C0) (cs := cs) hm me no t => ⟨fun x r C R H h hx hR => by
    rw [List.map_cons, List.lookup_cons] at h
    cases q : (x == e) with
    | true =>
      rw [q] at h
      cases h
      rw [eq_of_beq q, hm] at hx
      cases hx
      exact ⟨true, me, fun _ => hR, fun z => by cases z⟩
    | false =>
      rw [q] at h
      obtain ⟨C', m⟩ := look_ret h
      have e2 : C = C' := by
        have e2 := hx.symm.trans (t.mg _ m)
        injection e2 with z
        injection z
      subst e2
      exact ⟨false, no.at _ m, fun z => (by cases z), fun _ => t.refs.of x r C R H h hx hR⟩⟩
theorem exm_of {K : PySem.W.Frag} {C D : Addr} {b : Bool} (hB : PySem.W.subIn K (.ref D) (.type "BaseException") = some true) (hC : PySem.W.isClsIn K D = true) (hT : PySem.W.typeIn K (.ref D) = some (.type "type")) (hS : PySem.W.subIn K (.ref C) (.ref D) = some b) : PySem.W.exmOne K (.ref C) (.ref D) = some b := by
  have z1 : (PySem.W.subIn K (.ref D) (.type "BaseException") == some true) = true := by rw [hB]; rfl
  have z2 : ((PySem.W.clsIn K D).isSome && PySem.W.typeIn K (.ref D) == some (.type "type")) = true := by
    rw [show (PySem.W.clsIn K D).isSome = true from hC, hT]; rfl
  unfold PySem.W.exmOne
  rw [if_pos z1]
  show (if _ = true then PySem.W.subIn K (.ref C) (.ref D) else none) = some b
  rw [if_pos z2]
  exact hS
/-! ### the law that makes lambdas -/
section
variable {P : Program} {w : World} {K : PySem.W.Frag} {mg : Str → Option Value} {base : Heap}
theorem fnDc {x qual : Str} {st : Stmt} {f : Addr} {oc kV doc pm cdv ct : Value} {od an : Option Addr} {osl : Array (Option Value)} {N ps : List Str} {k : Nat} {sp : XSp} {t : XS} (lk : K.lookup f = some ⟨oc, od, .func (PySem.W.fnOf x qual (defArgs st) (defBody st) (defScope st) .none kV doc pm an cdv ct), osl⟩) (hcd : PySem.W.codeIn K cdv qual = true)
    (S : FnScope N ps (defScope st)) (len : ∀ us μ Q, sp us μ Q → us.length = ps.length)
    (body : ∀ (A : Around) (outer : List Env) (s : Shared) (H : Hp) (E : XK), Room k (A.deeper (envOfC qual (defScope st) s.heap.objs.size f cdv)) →
      QSs (cxOf CX0 P w K mg base N qual (defScope st) f cdv A outer s H E).nox (defBody st) t)
    (read : ∀ us μ Q, sp us μ Q → t { nx := fun _ μ' => back μ.length Q (.fz .non) μ', rt := back μ.length Q } (startR N us) μ) : FnOk P w K mg base CX0 (k + 1) f (PySem.W.fnOf x qual (defArgs st) (defBody st) (defScope st) .none kV doc pm an cdv ct) ps (liftSp K sp) := by
  refine fn_of lk hcd S (fun vs H Q E ⟨us, μ, F', τ, Q3, rh, ru, h, _⟩ => by rw [RepUs.length ru]; exact len us μ Q3 h) fun A outer s H vs Q E hr ⟨us, μ, F', τ, Q3, rh, ru, h, k⟩ => ?_
  obtain ⟨rs, rl⟩ := start_rep (N := N) ru
  have kb := k.back
  rw [rh.len] at kb
  refine ⟨_, (body A outer s H E hr).nox, startR N us, μ, F', τ, _, ⟨rh, rs, rl⟩, read us μ Q3 h, ⟨?_, kb, fun ρ' σ' μ' F' τ' H' _ _ _ _ q => q.elim, fun ρ' σ' μ' F' τ' H' _ _ _ _ q => q.elim⟩⟩
  exact fun ρ' σ' μ' F2 τ' H' e r _ _ q => kb _ _ μ' F2 τ' H' e r (RepU.fz .non) q
theorem law_ofT {sp : XSp} {vs : List V} {H : Hp} {a c Pt : Addr} {q : Str} {ns : List Int} {Q : VK} (hH : H Pt = some (.tbl #[])) (hT : PySem.W.tabIn K "law" = some (c, Pt)) (hS : SqL K H a (ns.map V.int)) (hq : ∀ H', Q (.bl true) H') (h : sp [.fz (.slst (ns.map .int))] [.tab 0 Pt q] fun u μ => u = .fz (.bl true)) : liftSp K sp [.ref a] H Q E0 := by
  have one : ∀ (i : Nat) (b : Addr), [Pt][i]? = some b → i = 0 ∧ b = Pt := fun i b e => by
    cases i with
    | zero => exact ⟨rfl, (Option.some.inj e).symm⟩
    | succ i => cases e
  refine ⟨_, [.tab 0 Pt q], noTbl H, [Pt], _, ⟨Sub.of fun a o z => noTbl_of z, fun _ z => noTbl_none z, rfl, fun i j a e1 e2 _ _ => by rw [(one i a e1).1, (one j a e2).1], fun i a e _ => by rw [(one i a e).2]; exact noTbl_tbl hH, fun i a e => (by rw [(one i a e).2, hH]; intro z; cases z), fun i a m e em _ => ?_, fun a ps z => noTbl_tbl z⟩, .cons (RepU.fz (.slst (noTbl_sqL hS) (repInts ns))) .nil, h, ?_⟩
  · obtain ⟨rfl, rfl⟩ := one i a e
    have em' : m = .tab 0 a q := (Option.some.inj em).symm
    subst em'
    refine ⟨_, hH, rfl, True.intro, fun pos cv hc => ?_, c, hT⟩
    have z : codeAmong pos [] = some cv := hc
    simp [codeAmong] at z
  · intro u v μ' F' τ' H' _ _ ru q
    subst q
    rw [bl_of ru]
    exact hq H'
end
/-- all that is asked of the law at the head -/
theorem lawAt_of {l : PySem.W.OpenLaw} {w : World} {K : PySem.W.Frag} {k : Nat} {mg : Str → Option Value} {fa cL PL : Addr} {h : Heap} {sp : XSp} {q : Str} (KX : K.In h) (hT : PySem.W.tabIn K "law" = some (cL, PL)) (hc : PySem.W.codeHdIn K cL PL = true) (hn : K.lookup PL = none) (hP : h.get? PL = some (PySem.W.tabObj #[]))
    (hf : ∃ fd : FuncData, (∀ (s : Shared) (v : Value), BindsTo s fd ⟨[v], []⟩ [("script", v)]) ∧ ∀ base : Heap, K.In base → base.Ns mainGlobals mg → LamX.TabB base mg cL PL → FnOk l.prog w K mg base CX0 k fa fd ["script"] (liftSp K sp))
    (hl : ∀ ns : List Int, ns.length ≤ 63 → sp [.fz (.slst (ns.map .int))] [.tab 0 PL q] fun u μ => u = .fz (.bl true)) : LamX.LawAtS l w K CX0 k 63 "script" mg fa h := by
  obtain ⟨fd, hb, F⟩ := hf
  refine ⟨fd, [(cL, PL)], liftSp K sp, fun p hp => ?_, fun p hp => ?_, fun p hp => ?_, hb, fun H a ns hns _ hH hS => ?_, fun base h1 h2 h3 => F base h1 h2 (h3 (cL, PL) (.head _))⟩
  · rw [List.mem_singleton] at hp; rw [hp]; exact hP
  · rw [List.mem_singleton] at hp; rw [hp]; exact hn
  · rw [List.mem_singleton] at hp; rw [hp]; exact PySem.W.codeHd_of_K KX hc
  · exact law_ofT (vs := []) (hH (cL, PL) (.head _)) hT hS (fun _ => rfl) (hl ns hns)
/-! ### statements that raise nothing, among those that may -/
theorem PS_nox {X : Cx} {st : Stmt} {t : TS} (h : PS X.nox st t) : PS X st t := ⟨fun pins s σ H D I hw => wpAny_mono (h.run pins s σ H D (I.wish _) hw) (fun _ _ q => q.unwish) fun _ _ z => False.elim z⟩
theorem qx_nox {X : Cx} {W : WX} {st : Stmt} {t : XS} (h : QS X.nox st t) : QX X W st (wCalm t) := PS.mono (PS_nox h) fun D σ H ⟨ρ, μ, F, τ, E, E3, r, q, c, _⟩ => ⟨ρ, μ, F, τ, E, r, q, c⟩
abbrev excBm : List Value := [.type "ValueError", .type "Exception", .type "BaseException", .type "object"]
abbrev RdX (sp : XSpX) (N : List Str) (t : XSX) : Prop := ∀ us μ Q E, sp us μ Q E → t { nx := fun _ μ' => back μ.length Q (.fz .non) μ', rt := back μ.length Q } (backE μ.length E) (startR N us) μ
end W3
namespace W3
open PySem PySem.Spec PyProof.Rows L2
/-! ### plain tuples: of which it is known that they have no dict of their own -/
theorem ptup_of {K : PySem.W.Frag} {F : Hp} {τ : List Addr} {v : V} {ds : List D} (h : RepU K F τ v (.fz (.ptup ds))) : ∃ a vs, v = .ref a ∧ PlT F a vs ∧ RepDs K F vs ds := by
  cases (show RepD K F v (.ptup ds) from h) with
  | ptup h1 r1 => exact ⟨_, _, rfl, h1, r1⟩
theorem PlT.rd {F : Hp} {a : Addr} {vs : List V} (h : PlT F a vs) : L2.Rd F a (.tup vs) := let ⟨o, _, e⟩ := h; .inr ⟨o, e⟩
/-- read as any tuple -/
def asK : U → U
  | .fz (.ptup ds) => .fz (.ktup ds)
  | u => u
theorem asK_rep {K : PySem.W.Frag} {F : Hp} {τ : List Addr} {v : V} {u : U} (h : RepU K F τ v u) : RepU K F τ v (asK u) := by
  unfold asK
  split
  · obtain ⟨a, vs, rfl, p, r⟩ := ptup_of h
    exact RepU.fz (.ktup (.inl p.rd) r)
  · exact h
def wK (te : XE) : XE := fun ρ μ Q => te ρ μ fun u μ1 => Q (asK u) μ1
theorem new_ptup {K : PySem.W.Frag} {F H : Hp} {τ : List Addr} {μ : Mu} {Q : UK} {R : VK} (r : RepH K F τ μ H) (k : Ct K F τ H Q R) {vs : List V} {ds : List D} (h : RepDs K F vs ds) (q : Q (.fz (.ptup ds)) μ) : ∀ p (ob : Obj), H p = none → ob.dict = none → R (.ref p) (upd H p (.frz ob (.tup vs))) := fun p ob hp ho =>
  k _ _ μ _ τ _ (Ext.newF (.frz ob (.tup vs)) (r.dom p hp) hp) (r.newF _ hp) (RepU.fz (.ptup ⟨ob, ho, upd_same⟩ (h.mono (Sub.new (r.dom p hp))))) q
def wTupP (t : XA) : XE := fun ρ μ Q => t ρ μ fun us μ1 => match toDs us with
  | some ds => ds.length ≤ sizeLine ∧ Q (.fz (.ptup ds)) μ1
  | none => False
section
variable {X : Cx} {pos : Pos}
theorem qe_k {e : Expr} {te : XE} (h : QE X e te) : QE X e (wK te) := PE.mono h fun σ H R ⟨ρ, μ, F, τ, Q, r, q, k⟩ =>
  ⟨ρ, μ, F, τ, _, r, q, fun u v μ' F' τ' H' e r' ru q' => k (asK u) v μ' F' τ' H' e r' (asK_rep ru) q'⟩
def tTupZ (t : TA) : TE := fun σ H Q => t σ H fun xs H1 => xs.length ≤ sizeLine ∧ ∀ p (ob : Obj), H1 p = none → ob.dict = none → Q (.ref p) (upd H1 p (.frz ob (.tup xs)))
theorem pe_tupZ {es : List Expr} {x1} {t : TA} (h : PA X es t) : PE X (.Tuple es x1 pos) (tTupZ t) := by
  refine ⟨fun pins s σ H Q I hq => ?_⟩
  refine wpAny_Tuple_spliced (thn (h.run pos pins s σ H _ I hq) fun us s1 ⟨xs, H1, I1, r, z, q⟩ => ⟨by rw [← r.length]; exact z, ?_⟩)
  have hf : H1 s1.heap.objs.size = none := I1.hok.fresh (Nat.le_refl _)
  refine ⟨.ref s1.heap.objs.size, _, I1.laid (t' := s1.toks) (o := .frz { cls := .type "tuple", data := .seq us.toArray } (.tup xs)) (fun b u e => Heap.get?_push_of_some _ e) (Nat.le_refl _) ?_, rfl, q _ _ hf rfl⟩
  exact ⟨Heap.get?_push_size _ rfl, z, us, r, ⟨_, Heap.get?_push_size _ rfl, rfl, _, rfl⟩⟩
theorem qe_tupP {es : List Expr} {x1} {t : XA} (h : QA X es t) : QE X (.Tuple es x1 pos) (wTupP t) := PE.mono (pe_tupZ h) fun σ H R ⟨ρ, μ, F, τ, Q, r0, q, k⟩ => by
  refine ⟨ρ, μ, F, τ, _, r0, q, fun us vs μ1 F1 τ1 H1 e1 r1 rus q1 => ?_⟩
  split at q1
  · rename_i ds hd
    have rd := repDs_of rus hd
    exact ⟨by rw [rd.length]; exact q1.1, new_ptup r1 (k.at e1) rd q1.2⟩
  · exact q1.elim
/-! tuple(list) -/
theorem call_tupleZ : CallR X (.type "tuple") (fun xs H Q => ∃ p ys, xs = [.ref p] ∧ SqL X.K H p ys ∧ ∀ l (ob : Obj), H l = none → ob.dict = none → Q (.ref l) (upd H l (.frz ob (.tup ys)))) := by
  intro pins s σ H xs us Q I r h
  obtain ⟨p, ys, rfl, hq, q⟩ := h
  obtain ⟨u, rfl, rx⟩ := vals1 r
  cases rx
  obtain ⟨its, r', pl, hz⟩ := I.list hq
  have hlen := r'.length
  refine call_tuple_list pl.isList (fun h' kp => ?_) (by simp only [List.size_toArray] <;> omega)
  have I1 : Inv X pins σ H { s with heap := h' } := I.kept (t' := s.toks) kp
  have I2 : Inv X pins σ (upd H h'.objs.size (.frz { cls := .type "tuple", data := .seq its.toArray } (.tup ys))) { s with heap := h'.push { cls := .type "tuple", data := .seq its.toArray } } :=
    I1.laid (t' := s.toks) (fun b o e => Heap.get?_push_of_some _ e) (Nat.le_refl _) (show ObjOk X.prog X.w _ _ _ (.frz _ (.tup ys)) from ⟨Heap.get?_push_size _ rfl, hz, its, r', IsTup.new _ _⟩)
  exact ⟨.ref h'.objs.size, _, I2, rfl, q _ _ (I1.hok.fresh (Nat.le_refl _)) rfl⟩
def oTupleP : U → Mu → UK → Prop := fun u μ Q => ∃ ds, seqD μ u = some ds ∧ Q (.fz (.ptup ds)) μ
theorem qc_tupleP : QC X (.type "tuple") (c1 oTupleP) := CallR.mono call_tupleZ fun xs H R h => by
  obtain ⟨F, τ, μ, v, u, Q, rfl, rh, ru, q, k⟩ := c1_of h
  obtain ⟨ds, e, q⟩ := q
  obtain ⟨a, vs, rfl, ha, rd⟩ := seqD_rep rh ru e
  exact ⟨a, vs, rfl, ha, new_ptup rh k rd q⟩
/-! tuple + tuple -/
def rCatZ : R2 := fun x y H Q => ∃ a b xs ys, x = .ref a ∧ y = .ref b ∧ PlT H a xs ∧ PlT H b ys ∧ xs.length + ys.length ≤ sizeLine ∧ (xs = [] → Q (.ref b) H) ∧ (xs ≠ [] → ys = [] → Q (.ref a) H) ∧
  (xs ≠ [] → ys ≠ [] → ∀ p (ob : Obj), H p = none → ob.dict = none → Q (.ref p) (upd H p (.frz ob (.tup (xs ++ ys)))))
theorem op_catZ : OpR X (binaryOp .Add) rCatZ := by
  intro pins s σ H x y v u Q I rx ry h
  obtain ⟨a, b, xs, ys, rfl, rfl, ha, hb, hz, q0, q1, q2⟩ := h
  cases rx
  cases ry
  obtain ⟨its, r1, p1, _⟩ := I.tuple (.inl ha.rd)
  obtain ⟨its2, r2, p2, _⟩ := I.tuple (.inl hb.rd)
  by_cases hx : xs = []
  · subst hx
    cases r1
    exact cat_tup0 p1 p2 ⟨.ref b, H, I, rfl, q0 rfl⟩
  · refine HT.cat_tup p1 p2 (fun z => hx (r1.nil_iff.mp z)) (fun z => ⟨.ref a, H, I, rfl, q1 hx (r2.nil_iff.mp z)⟩) (fun z => ?_) (by rw [← r1.length, ← r2.length]; exact hz)
    refine ⟨.ref s.heap.objs.size, _, I.laid (t' := s.toks) (o := .frz _ (.tup (xs ++ ys))) (fun b ob q => Heap.get?_push_of_some _ q) (Nat.le_refl _) ⟨Heap.get?_push_size _ rfl, ?_⟩, rfl, q2 hx (fun w => z (r2.nil_iff.mpr w)) _ _ (I.hok.fresh (Nat.le_refl _)) rfl⟩
    exact ⟨by rw [List.length_append]; exact hz, _, r1.append r2, IsTup.new _ _⟩
def oAddP : X2 := fun u w μ Q => match u, w with
  | .fz (.ptup xs), .fz (.ptup ys) => xs.length + ys.length ≤ sizeLine ∧ Q (.fz (.ptup (xs ++ ys))) μ
  | _, _ => False
theorem qo_addP : QO X (binaryOp .Add) oAddP := OpR.mono op_catZ fun x y H R ⟨F, τ, μ, u, w, Q, rh, ru, rw', q, k⟩ => by
  unfold oAddP at q
  split at q
  · obtain ⟨a, vs, rfl, ha, da⟩ := ptup_of ru
    obtain ⟨b, ws, rfl, hb, db⟩ := ptup_of rw'
    refine ⟨a, b, vs, ws, rfl, rfl, rh.sub.zt _ _ ha, rh.sub.zt _ _ hb, by rw [da.length, db.length]; exact q.1, fun z => ?_, fun _ z => ?_, fun _ _ => new_ptup rh k (da.append db) q.2⟩
    · have z := da.nil_of z
      subst z
      exact k.ret rh rw' q.2
    · have z := db.nil_of z
      subst z
      rw [List.append_nil] at q
      exact k.ret rh ru q.2
  · exact q.elim
/-! dict(tuple of pairs) -/
def prD : D → Option (Key × D)
  | .tup [kd, d] => (keyD kd).map fun k => (k, d)
  | _ => none
def prDs : List D → Option (List (Key × D))
  | [] => some []
  | p :: r => match prD p, prDs r with
    | some kv, some kvs => some (kv :: kvs)
    | _, _ => none
def mergeA (kds : List (Key × D)) : List (Key × D) := kds.foldl (fun acc kv => putA acc kv.1 kv.2) []
theorem prD_rep {K : PySem.W.Frag} {F : Hp} {v : V} {p : D} {kv : Key × D} (r : RepD K F v p) (e : prD p = some kv) : ∃ (a : Addr) (y : V), v = .ref a ∧ F a = some (.tup [kV kv.1, y]) ∧ RepD K F y kv.2 := by
  unfold prD at e
  split at e
  · rename_i kd d
    cases q : keyD kd with
    | none => rw [q] at e; cases e
    | some k =>
      rw [q] at e
      cases e
      cases r with
      | @tup a vs _ h rs =>
        cases rs with
        | cons h1 rs =>
          cases rs with
          | cons h2 rs =>
            cases rs
            exact ⟨a, _, rfl, by rw [← keyD_rep h1 q]; exact h, h2⟩
  · cases e
theorem prDs_rep {K : PySem.W.Frag} {F : Hp} : ∀ {vs : List V} {ds : List D} {kds : List (Key × D)}, RepDs K F vs ds → prDs ds = some kds → ∃ (ps : List Addr) (kvs : List (Key × V)), vs = ps.map V.ref ∧ Paired (fun p kv => F p = some (.tup [kV kv.1, kv.2])) ps kvs ∧ RepK1 K F kvs kds
  | _, _, _, .nil, e => by cases e; exact ⟨[], [], rfl, .nil, .nil⟩
  | _, p :: r, _, .cons h t, e => by
    unfold prDs at e
    cases q1 : prD p with
    | none => rw [q1] at e; cases e
    | some kv =>
      cases q2 : prDs r with
      | none => rw [q1, q2] at e; cases e
      | some kvs =>
        rw [q1, q2] at e
        cases e
        obtain ⟨a, y, rfl, e1, e2⟩ := prD_rep h q1
        obtain ⟨ps, vs, rfl, e3, e4⟩ := prDs_rep t q2
        exact ⟨a :: ps, (kv.1, y) :: vs, rfl, .cons e1 e3, .cons e2 e4⟩
theorem RepK1.merge {K : PySem.W.Frag} {F : Hp} : ∀ {more : List (Key × V)} {mds : List (Key × D)} {vs : List (Key × V)} {ds : List (Key × D)}, RepK1 K F more mds → RepK1 K F vs ds → RepK1 K F (mergeK vs more) (mds.foldl (fun acc kv => putA acc kv.1 kv.2) ds)
  | _, _, _, _, .nil, r => r
  | _, _, _, _, .cons (k := kk) h t, r => by
    have z := RepK1.merge t (r.put h kk)
    exact z
theorem pairs_of2 {pins : List (Addr × Obj)} {σ : L2.St} {H : Hp} {s : Shared} (I : Inv X pins σ H s) : ∀ {ps : List Addr} {kvs : List (Key × V)}, Paired (fun p kv => SqT X.K H p [kV kv.1, kv.2]) ps kvs →
    ∃ (prs : List (Key × Value)) (pvs : List (Value × Value)), KV kvs prs ∧ prs.length = ps.length ∧ pvs.length = ps.length ∧ ∀ (j : Nat) (k v : Value), pvs[j]? = some (k, v) → ∃ (b : Addr) (q : Key), ps[j]? = some b ∧ IsTup s.heap b #[k, v] ∧ prs[j]? = some (q, v) ∧ keyIs q k = true
  | _, _, .nil => ⟨[], [], .nil, rfl, rfl, fun j k v e => by simp at e⟩
  | _, _, .cons (a := p) (b := kv) h t => by
    obtain ⟨prs, pvs, r, hl, hl2, hp⟩ := pairs_of2 I t
    obtain ⟨its, rv, ht, _⟩ := I.tuple h
    obtain ⟨u, y, ei, ru, ry⟩ := vals2 rv
    subst ei
    refine ⟨(kv.1, y) :: prs, (u, y) :: pvs, .cons ⟨rfl, ry⟩ r, by rw [List.length_cons, List.length_cons, hl], by rw [List.length_cons, List.length_cons, hl2], fun j k v e => ?_⟩
    cases j with
    | zero =>
      have e' : (u, y) = (k, v) := Option.some.inj e
      cases e'
      exact ⟨p, kv.1, rfl, ht, rfl, kV_is (P := X.prog) (w := X.w) ru⟩
    | succ j =>
      obtain ⟨b, q, e1, e2, e3, e4⟩ := hp j k v (by simpa using e)
      exact ⟨b, q, by simpa using e1, e2, by simpa using e3, e4⟩
/-- dict(xs) of a plain tuple of pairs -/
theorem call_dictPT (hcalm : X.calm = true) : CallR X (.type "dict") (fun xs H Q => ∃ (a : Addr) (ps : List Addr) (kvs : List (Key × V)), xs = [.ref a] ∧ PlT H a (ps.map V.ref) ∧ Paired (fun p kv => SqT X.K H p [kV kv.1, kv.2]) ps kvs ∧
    ∀ p, H p = none → Q (.ref p) (upd H p (.dK (mergeK [] kvs)))) := by
  intro pins s σ H xs us Q I r q
  obtain ⟨a, ps, kvs, ex, ⟨ob, hob, hH⟩, hp, q⟩ := q
  subst ex
  obtain ⟨u, eu, rx⟩ := vals1 r
  subst eu
  cases rx
  obtain ⟨ho, hz, its, rv, ob2, ho2, hc, n, hdat⟩ := I.hok a _ hH
  rw [ho] at ho2
  cases ho2
  have ei := refs_at rv
  subst ei
  rw [List.length_map] at hz
  obtain ⟨prs, pvs, rel, hl, hl2, hpr⟩ := pairs_of2 I hp
  refine PySem.call_dict_pairs (knd := mixKind X.prog X.w) (kvs := prs) (PairArg.tuple a (ps.map Value.ref).toArray (fun j => ps.getD j 0) pvs) (I.ok.hd hcalm) ⟨⟨ob, n, ho, hc, hob, hdat⟩, by simp [hl2], fun j k v e => ?_⟩ ⟨by rw [hl, hl2], fun j k v e => ?_⟩ (by rw [hl2]; exact hz) fun h' tk hd' k => ?_
  · obtain ⟨b, q, e1, e2, _⟩ := hpr j k v e
    have eb : ps.getD j 0 = b := by rw [List.getD_eq_getElem?_getD, e1]; rfl
    refine ⟨?_, .inl ?_⟩
    · show (List.map Value.ref ps).toArray[j]? = some (Value.ref (ps.getD j 0))
      rw [eb]
      simp [e1]
    · show s.heap.IsTuple (ps.getD j 0) #[k, v]
      rw [eb]; exact e2
  · obtain ⟨b, q, _, _, e3, e4⟩ := hpr j k v e
    exact ⟨q, e3, e4⟩
  · have hm : (s.heap.objs.size == sysModules) = false := beq_eq_false_iff_ne.mpr (Nat.ne_of_gt I.big)
    have hlen : (mergeK [] kvs).length ≤ sizeLine := by
      refine Nat.le_trans (length_mergeK kvs []) ?_
      rw [List.length_nil, Nat.zero_add, rel.length, hl]
      exact hz
    exact ⟨.ref s.heap.objs.size, upd H s.heap.objs.size (.dK (mergeK [] kvs)), I.laid (t' := tk) (fun b o e => k b o (by simp) e) (Nat.le_refl _) (show ObjOk X.prog X.w _ _ _ (.dK (mergeK [] kvs)) from ⟨hlen, hm, merged [] prs, KV.merge rel .nil, hd'⟩), rfl, q _ (I.hok.fresh (Nat.le_refl _))⟩
/-- dict(t) of a plain tuple of pairs, dict(d) of a dict: read alone, or an own object -/
def oDictP (own : Bool) : U → Mu → UK → Prop := fun u μ Q => match u with
  | .fz (.ptup ds) => ∃ kds, prDs ds = some kds ∧ mkK own (mergeA kds) μ Q
  | .fz (.dK kds) => mkK own kds μ Q
  | _ => False
theorem new_K {K : PySem.W.Frag} {F H : Hp} {τ : List Addr} {μ : Mu} {Q : UK} {R : VK} {own : Bool} (r : RepH K F τ μ H) (k : Ct K F τ H Q R) {vs : List (Key × V)} {ds : List (Key × D)} (h : RepK1 K F vs ds) (q : mkK own ds μ Q) : ∀ p, H p = none → R (.ref p) (upd H p (.dK vs)) := by
  cases own with
  | true => exact new_own r k (show RepO K F τ (.dK vs) (.dK (ds.map fun p => (p.1, .fz p.2))) from repKU_of h) q
  | false =>
    exact fun p hp => k _ _ μ _ τ _ (Ext.newF (.dK vs) (r.dom p hp) hp) (r.newF _ hp) (RepU.fz (.dK (.inl upd_same) (h.mono (Sub.new (r.dom p hp))))) q
theorem dK_of {K : PySem.W.Frag} {F : Hp} {τ : List Addr} {v : V} {ds : List (Key × D)} (h : RepU K F τ v (.fz (.dK ds))) : ∃ a vs, v = .ref a ∧ L2.Rd F a (.dK vs) ∧ RepK1 K F vs ds := by
  cases (show RepD K F v (.dK ds) from h) with
  | dK h1 r1 => exact ⟨_, _, rfl, h1, r1⟩
theorem Paired.imp' {α β : Type} {P Q : α → β → Prop} (m : ∀ a b, P a b → Q a b) : ∀ {l : List α} {l' : List β}, Paired P l l' → Paired Q l l'
  | _, _, .nil => .nil
  | _, _, .cons h t => .cons (m _ _ h) (Paired.imp' m t)
theorem qc_dictP (hcalm : X.calm = true) (own : Bool) : QC X (.type "dict") (c1 (oDictP own)) := CallR.mono (CallR.or (call_dictPT hcalm) call_dictD) fun xs H R h => by
  obtain ⟨F, τ, μ, v, u, Q, rfl, rh, ru, q, k⟩ := c1_of h
  unfold oDictP at q
  split at q
  · obtain ⟨kds, e, q⟩ := q
    obtain ⟨a, vs, rfl, ha, rd⟩ := ptup_of ru
    obtain ⟨ps, kvs, rfl, e1, e2⟩ := prDs_rep rd e
    exact .inl ⟨a, ps, kvs, rfl, rh.sub.zt _ _ ha, Paired.imp' (fun p kv z => sqT_of rh.sub z) e1, new_K rh k (RepK1.merge e2 .nil) q⟩
  · obtain ⟨a, vs, rfl, ha, rd⟩ := dK_of ru
    exact .inr ⟨a, vs, rfl, rh.sub.dK _ _ ha, new_K rh k rd q⟩
  · exact q.elim
/-! d.get(k) -/
def wGet (td ty : XE) : XE := fun ρ μ Q => td ρ μ fun u μ1 => isDict μ1 u = true ∧ ty ρ μ1 fun w μ2 => ∃ o, dlook μ2 u w = some o ∧ Q (o.getD (.fz .non)) μ2
theorem isD_rep {K : PySem.W.Frag} {F H : Hp} {τ : List Addr} {μ : Mu} {x : V} {u : U} (rh : RepH K F τ μ H) (ru : RepU K F τ x u) (e : isDict μ u = true) : ∃ a, x = .ref a ∧ IsD H a := by
  cases u with
  | fz d =>
    cases d <;> first | cases e | skip
    · obtain ⟨a, vs, rfl, h, _⟩ := dK_of ru
      exact ⟨a, rfl, .inl ⟨vs, rh.sub.dK _ _ h⟩⟩
    · rename_i kvs
      cases (show RepD K F x (.dT kvs) from ru) with
      | dT h1 r1 => exact ⟨_, rfl, .inr ⟨_, rh.sub.dT _ _ h1⟩⟩
  | ptr n =>
    obtain ⟨a, ha, rfl⟩ := ru
    cases q : μ[n]? with
    | none => simp only [isDict, q] at e; cases e
    | some m =>
      cases m with
      | dK kvs =>
        obtain ⟨o, ho, ro⟩ := rh.obj n a _ ha q (by intro z; cases z)
        cases o <;> first | exact ro.elim | skip
        exact ⟨a, rfl, .inl ⟨_, .inl ho⟩⟩
      | dT kvs =>
        obtain ⟨o, ho, ro⟩ := rh.obj n a _ ha q (by intro z; cases z)
        cases o <;> first | exact ro.elim | skip
        exact ⟨a, rfl, .inr ⟨_, .inl ho⟩⟩
      | _ => simp only [isDict, q] at e; cases e
theorem m1_of {o e : Expr} {m : Str} {apos cpos : Pos} (base : attributeBase o m X.env (eval o X.env) = eval o X.env) (few : ((backTo cpos (starEach [e] X.env)).all (fun x => !x.1) && (backToKw cpos (keywordEach [] X.env)).all (fun x => x.1.isSome)
    && decide (([e] : List Expr).length + ([] : List Keyword).length + (if ([] : List Keyword).isEmpty then 0 else 1) < 30)) = true) (line : (apos.endLine == cpos.line) = true) (trees : backTo cpos (starEach [e] X.env) = [(false, eval e X.env)]) : M1 X o m apos e cpos := ⟨base, few, line, trees⟩
theorem qe_get {o e : Expr} {apos cpos : Pos} {td ty : XE} (hu : X.A.units + 1 < cLine) (ho : QE X o td) (he : QE X e ty) (m : M1 X o "get" apos e cpos) : QE X (.Call (.Attribute o "get" apos) [e] [] cpos) (wGet td ty) := PE.mono (pe_dget1 hu ho he m) fun σ H R ⟨ρ, μ, F, τ, Q, r0, q, k⟩ => by
  refine ⟨ρ, μ, F, τ, _, r0, q, fun u v μ1 F1 τ1 H1 e1 r1 ru q1 => ?_⟩
  obtain ⟨a, rfl, d⟩ := isD_rep r1 ru q1.1
  refine ⟨a, rfl, d, ρ, μ1, F1, τ1, _, r0.at e1 r1, q1.2, fun w y μ2 F2 τ2 H2 e2 r2 rw' q2 => ?_⟩
  obtain ⟨oo, e3, q2⟩ := q2
  obtain ⟨a', r, e4, g, rel⟩ := dlook_rep r2 (ru.at e2) rw' e3
  cases e4
  refine ⟨r, g, ?_⟩
  cases r with
  | none =>
    cases oo with
    | none => exact (k.at (e1.trans e2)).ret r2 (RepU.fz .non) q2
    | some z => exact rel.elim
  | some y' =>
    cases oo with
    | none => exact rel.elim
    | some z => exact (k.at (e1.trans e2)).ret r2 rel q2
/-! {k: v} -/
def wDisp1 (tk tv : XE) : XE := fun ρ μ Q => tk ρ (μ ++ [.dK []]) fun w μ1 => tv ρ μ1 fun u μ2 => match w, u with
  | .fz kd, .fz d => ∃ k, keyD kd = some k ∧ μ2[μ.length]? = some (.dK []) ∧ Q (.ptr μ.length) (μ2.set μ.length (.dK [(k, .fz d)]))
  | _, _ => False
theorem qe_disp1 {a b : Expr} {tk tv : XE} (hk : QE X a tk) (hv : QE X b tv) : QE X (.Dict [some a] [b] pos) (wDisp1 tk tv) :=
  PE.mono (pe_disp (pps_cons hk hv pps_nil) rfl rfl (by intro z; cases z) (by show 1 ≤ 15; omega)) fun σ H R ⟨ρ, μ, F, τ, Q, r, q, k⟩ => by
    intro p hp
    have e0 : Ext F τ H F (τ ++ [p]) (upd H p (.dK [])) := Ext.newO (.dK []) hp
    have r0 := r.h.newO hp (show RepO X.K F τ (.dK []) (.dK []) from .nil)
    refine ⟨ρ, _, F, τ ++ [p], _, r.at e0 r0, q, fun w x μ1 F1 τ1 H1 e1 r1 rw' q1 => ?_⟩
    refine ⟨ρ, μ1, F1, τ1, _, (r.at e0 r0).at e1 r1, q1, fun u y μ2 F2 τ2 H2 e2 r2 ru q2 => ?_⟩
    split at q2
    · rename_i kd d
      obtain ⟨kk, h1, h2, q2⟩ := q2
      have ek : x = kV kk := keyD_rep rw' h1
      obtain ⟨t, ht⟩ := (e1.trans e2).pre
      have hτ : τ2[μ.length]? = some p := by
        rw [ht, List.append_assoc, ← r.h.len, List.getElem?_append_right (Nat.le_refl _), Nat.sub_self]
        rfl
      obtain ⟨o, ho, ro⟩ := r2.obj μ.length p _ hτ h2 (by intro z; cases z)
      cases o <;> first | exact ro.elim | skip
      rename_i vs
      cases ro
      have ro2 : RepO X.K F2 τ2 (.dK [(kk, y)]) (.dK [(kk, .fz d)]) := .cons ⟨rfl, ru⟩ .nil
      refine ⟨ho, [(kk, y)], by rw [ek]; rfl, by show 1 ≤ 15; omega, ?_⟩
      have em : mergeK [] [(kk, y)] = [(kk, y)] := rfl
      rw [em]
      have r3 := r2.setO hτ h2 (by intro z; cases z) ro2
      have e3 : Ext F2 τ2 H2 F2 τ2 (upd H2 p (.dK [(kk, y)])) := Ext.setO hτ (by rw [ho]; intro z; cases z) (fun o u z => by rw [ho] at z; cases z)
      exact k (.ptr μ.length) (.ref p) _ F2 τ2 _ (((e0.trans e1).trans e2).trans e3) r3 ⟨p, hτ, rfl⟩ q2
    · exact q2.elim
end
end W3
namespace W3
open PySem PySem.Spec PyProof.Rows L2
/-! ### pure evaluation in big steps: nothing is changed, one value comes out -/
def Ev (c : XT) (ρ : Rho) (μ : Mu) (b : Bool) : Prop := ∀ K : Bool → Mu → Prop, K b μ → c ρ μ K
def EvE (e : XE) (ρ : Rho) (μ : Mu) (u : U) : Prop := ∀ Q : UK, Q u μ → e ρ μ Q
section
variable {ρ : Rho} {μ : Mu}
theorem ev_var {i : Nat} {u : U} (h : ρ[i]? = some (some u)) : EvE (wVar i) ρ μ u := fun Q q => by
  unfold wVar
  rw [h]
  exact q
theorem ev_c (d : D) : EvE (wC d) ρ μ (.fz d) := fun Q q => q
theorem ev_B {e : XE} {b : Bool} (h : EvE e ρ μ (.fz (.bl b))) : Ev (wB e) ρ μ b := fun K k => h _ k
theorem ev_tru {e : XE} {b : Bool} (h : EvE e ρ μ (.fz (.bl b))) : Ev (wTru e) ρ μ b := fun K k => h _ k
theorem ev_not {c : XT} {b : Bool} (h : Ev c ρ μ b) : Ev (wNot c) ρ μ (!b) := fun K k => h _ k
theorem ev_and {a c : XT} {x y : Bool} (h : Ev a ρ μ x) (h2 : x = true → Ev c ρ μ y) : Ev (wAnd a c) ρ μ (x && y) := fun K k => h _ (by
  cases x with
  | true => exact h2 rfl _ k
  | false => exact k)
theorem ev_or {a c : XT} {x y : Bool} (h : Ev a ρ μ x) (h2 : x = false → Ev c ρ μ y) : Ev (wOr a c) ρ μ (x || y) := fun K k => h _ (by
  cases x with
  | false => exact h2 rfl _ k
  | true => exact k)
theorem ev_notV {e : XE} {b : Bool} (h : EvE e ρ μ (.fz (.bl b))) : EvE (wNotV e) ρ μ (.fz (.bl (!b))) := fun K k => h _ k
theorem ev_andV {a c : XE} {x y : Bool} (h : EvE a ρ μ (.fz (.bl x))) (h2 : x = true → EvE c ρ μ (.fz (.bl y))) : EvE (wAndV a c) ρ μ (.fz (.bl (x && y))) := fun K k => h _ (by
  cases x with
  | true => exact h2 rfl _ k
  | false => exact k)
theorem ev_orV {a c : XE} {x y : Bool} (h : EvE a ρ μ (.fz (.bl x))) (h2 : x = false → EvE c ρ μ (.fz (.bl y))) : EvE (wOrV a c) ρ μ (.fz (.bl (x || y))) := fun K k => h _ (by
  cases x with
  | false => exact h2 rfl _ k
  | true => exact k)
theorem ev_2 {o : X2} {a b : XE} {u v w : U} (ha : EvE a ρ μ u) (hb : EvE b ρ μ v) (ho : ∀ Q : UK, Q w μ → o u v μ Q) : EvE (w2 o a b) ρ μ w := fun Q q => ha _ (hb _ (ho Q q))
theorem ev_ix {a b : XE} {ds : List D} {i : Int} {d : D} (ha : EvE a ρ μ (.fz (.tup ds))) (hb : EvE b ρ μ (.fz (.int i))) (h : atI ds i = some d) : EvE (w2 oIx a b) ρ μ (.fz d) := ev_2 ha hb fun Q q => ⟨d, h, q⟩
theorem at_getD {ds : List D} {i : Nat} (h : i < ds.length) : atI ds (i : Int) = some (ds.getD i .non) := by
  rw [atI_ix (List.getElem?_eq_getElem h), List.getD_eq_getElem?_getD, List.getElem?_eq_getElem h]
  rfl
theorem ev_ixD {a : XE} {ds : List D} {k : Int} (i : Nat) (ha : EvE a ρ μ (.fz (.tup ds))) (h : i < ds.length) (e : k = (i : Int) := by rfl) : EvE (w2 oIx a (wC (.int k))) ρ μ (.fz (ds.getD i .non)) := by
  subst e
  exact ev_ix ha (ev_c _) (at_getD h)
theorem ev_len {a : XE} {ds : List D} (ha : EvE a ρ μ (.fz (.tup ds))) : EvE (wCall (c1 oLen) (wCons a wNil)) ρ μ (.fz (.int ds.length)) := fun Q q => ha _ q
theorem ev_isi {a : XE} {d : D} {c : Kl} {n : String} {b : Bool} (ha : EvE a ρ μ (.fz d)) (hb : isiU c μ (.fz d) = some b) (hn : n = c.name := by rfl) : EvE (wCall (c2 (oIsi c)) (wCons a (wCons (wC (.ty n)) wNil))) ρ μ (.fz (.bl b)) := fun Q q => ha _ ⟨hn, b, hb, q⟩
theorem ev_fn1 {sp : XSp} {a : XE} {d r : D} (ha : EvE a ρ μ (.fz d)) (hs : ∀ Q : UK, Q (.fz r) [] → sp [.fz d] [] Q) : EvE (wFn sp (wCons a wNil)) ρ μ (.fz r) := fun Q q => ha _ ⟨⟨List.nodup_nil, rfl⟩, hs _ ⟨⟨Nat.zero_le _, rfl⟩, q⟩⟩
theorem ev_fn2 {sp : XSp} {a b : XE} {d e r : D} (ha : EvE a ρ μ (.fz d)) (hb : EvE b ρ μ (.fz e)) (hs : ∀ Q : UK, Q (.fz r) [] → sp [.fz d, .fz e] [] Q) : EvE (wFn sp (wCons a (wCons b wNil))) ρ μ (.fz r) := fun Q q => ha _ (hb _ ⟨⟨List.nodup_nil, rfl⟩, hs _ ⟨⟨Nat.zero_le _, rfl⟩, q⟩⟩)
theorem ev_fn4 {sp : XSp} {a b c d : XE} {d1 d2 d3 d4 r : D} (h1 : EvE a ρ μ (.fz d1)) (h2 : EvE b ρ μ (.fz d2)) (h3 : EvE c ρ μ (.fz d3)) (h4 : EvE d ρ μ (.fz d4)) (hs : ∀ Q : UK, Q (.fz r) [] → sp [.fz d1, .fz d2, .fz d3, .fz d4] [] Q) : EvE (wFn sp (wCons a (wCons b (wCons c (wCons d wNil))))) ρ μ (.fz r) := fun Q q => h1 _ (h2 _ (h3 _ (h4 _ ⟨⟨List.nodup_nil, rfl⟩, hs _ ⟨⟨Nat.zero_le _, rfl⟩, q⟩⟩)))
theorem ev_eqI {a b : XE} {i j : Int} (ha : EvE a ρ μ (.fz (.int i))) (hb : EvE b ρ μ (.fz (.int j))) : EvE (w2 (oEq false) a b) ρ μ (.fz (.bl (decide (i = j)))) := ev_2 ha hb fun Q q => q
theorem ev_neI {a b : XE} {i j : Int} (ha : EvE a ρ μ (.fz (.int i))) (hb : EvE b ρ μ (.fz (.int j))) : EvE (w2 (oEq true) a b) ρ μ (.fz (.bl (!decide (i = j)))) := ev_2 ha hb fun Q q => q
theorem ev_eqS {a b : XE} {i j : Str} (ha : EvE a ρ μ (.fz (.str i))) (hb : EvE b ρ μ (.fz (.str j))) : EvE (w2 (oEq false) a b) ρ μ (.fz (.bl (decide (i = j)))) := ev_2 ha hb fun Q q => q
theorem ev_neS {a b : XE} {i j : Str} (ha : EvE a ρ μ (.fz (.str i))) (hb : EvE b ρ μ (.fz (.str j))) : EvE (w2 (oEq true) a b) ρ μ (.fz (.bl (!decide (i = j)))) := ev_2 ha hb fun Q q => q
theorem ev_ltI {a b : XE} {i j : Int} (ha : EvE a ρ μ (.fz (.int i))) (hb : EvE b ρ μ (.fz (.int j))) : EvE (w2 oLt a b) ρ μ (.fz (.bl (decide (i < j)))) := ev_2 ha hb fun Q q => q
theorem ev_gtI {a b : XE} {i j : Int} (ha : EvE a ρ μ (.fz (.int i))) (hb : EvE b ρ μ (.fz (.int j))) : EvE (w2 oGt a b) ρ μ (.fz (.bl (decide (i > j)))) := ev_2 ha hb fun Q q => q
theorem ev_chain {o1 o2 : X2} {a b c : XE} {u v w : U} {x y : Bool} (ha : EvE a ρ μ u) (hb : EvE b ρ μ v) (h1 : ∀ Q : UK, Q (.fz (.bl x)) μ → o1 u v μ Q) (hc : EvE c ρ μ w) (h2 : ∀ Q : UK, Q (.fz (.bl y)) μ → o2 v w μ Q) : EvE (wChain o1 o2 a b c) ρ μ (.fz (.bl (x && y))) := fun Q q => ha _ (hb _ (h1 _ (by
  cases x with
  | true => exact hc _ (h2 _ q)
  | false => exact q)))
/-- what is true whatever the rest is may be put in at once -/
theorem Ev.at {c : XT} {b b' : Bool} (h : Ev c ρ μ b) (e : b = b') : Ev c ρ μ b' := e ▸ h
theorem EvE.at {c : XE} {u u' : U} (h : EvE c ρ μ u) (e : u = u') : EvE c ρ μ u' := e ▸ h
variable {E : XEnds} {c : XT} {b : Bool} {t t2 rest : XS}
theorem s_if (h : Ev c ρ μ b) (ht : b = true → t E ρ μ) (hf : b = false → t2 E ρ μ) : wIfS c t t2 E ρ μ := h _ (by
  cases b with
  | true => exact ht rfl
  | false => exact hf rfl)
theorem s_seqIf (h : Ev c ρ μ b) (ht : b = true → t { E with nx := rest E } ρ μ) (hf : b = false → rest E ρ μ) : wSeq (wIfS c t wNext) rest E ρ μ := h _ (by
  cases b with
  | true => exact ht rfl
  | false => exact hf rfl)
theorem s_ret {e : XE} {u : U} (h : EvE e ρ μ u) (q : E.rt u μ) : wRet e E ρ μ := h _ q
end
/-! ### comprehensions that change nothing -/
section
variable {ρ : Rho} {μ : Mu}
theorem ev_lcMap {e te : XE} {src : D} {ds : List D} {i : Nat} {vs : List Nat} (f : D → D) (he : EvE e ρ μ (.fz src)) (hs : itemsOf (.fz src) = some ds) (hl : ds.length ≤ 10000) (h : ∀ x ∈ ds, EvE te ((wipeR ρ vs).set i (some (.fz x))) μ (.fz (f x))) : EvE (wLc false (xSeq e) (gSet i) wYes te vs) ρ μ (.fz (.lst (ds.map f))) := fun Q q => he _ (by
  show (match itemsOf (.fz src) with
    | some ds => _
    | none => False)
  rw [hs]
  exact ⟨by rw [List.length_map]; exact small hl, compX_map f ds (fun x mx Kt Kf k => h x mx _ k) q⟩)
theorem ev_lcFil {e te : XE} {tt : XT} {src : D} {ds : List D} {i : Nat} {vs : List Nat} (p : D → Bool) (f : D → D) (he : EvE e ρ μ (.fz src)) (hs : itemsOf (.fz src) = some ds) (hl : ds.length ≤ 10000) (ht : ∀ x ∈ ds, Ev tt ((wipeR ρ vs).set i (some (.fz x))) μ (p x)) (h : ∀ x ∈ ds, p x = true → EvE te ((wipeR ρ vs).set i (some (.fz x))) μ (.fz (f x))) : EvE (wLc false (xSeq e) (gSet i) tt te vs) ρ μ (.fz (.lst ((ds.filter p).map f))) := fun Q q => he _ (by
  show (match itemsOf (.fz src) with
    | some ds => _
    | none => False)
  rw [hs]
  refine ⟨by rw [List.length_map]; exact small hl, compX_filter p f ds (fun x mx Kt Kf k => ht x mx _ ?_) q⟩
  cases c : p x with
  | true => rw [c] at k; exact h x mx c _ k
  | false => rw [c] at k; exact k)
theorem ev_lcRng {a te : XE} {j : Int} {n i : Nat} {vs : List Nat} (f : Nat → D) (ha : EvE a ρ μ (.fz (.int j))) (hj : -(2 ^ 62) ≤ j ∧ j < 2 ^ 62) (hn : j.toNat = n) (hl : n ≤ 10000) (h : ∀ x, x < n → EvE te ((wipeR ρ vs).set i (some (.fz (.int (x : Int))))) μ (.fz (f x))) : EvE (wLc false (xRng1 (wCons a wNil)) (gSet i) wYes te vs) ρ μ (.fz (.lst ((List.range n).map f))) := fun Q q => ha _ (by
  subst hn
  refine ⟨hj, small (by unfold upto; rw [List.length_map, List.length_range]; exact hl), ?_⟩
  unfold upto
  refine compX_map (e := fun x : Nat => .fz (.int (0 + (x : Int)))) f _ (fun x mx Kt Kf k => ?_) q
  show te ((wipeR ρ vs).set i (some (.fz (.int (0 + (x : Int)))))) μ _
  rw [Int.zero_add]
  exact h x (List.mem_range.mp mx) _ k)
theorem ev_lcRngF {a te : XE} {tt : XT} {j : Int} {n i : Nat} {vs : List Nat} (p : Nat → Bool) (f : Nat → D) (ha : EvE a ρ μ (.fz (.int j))) (hj : -(2 ^ 62) ≤ j ∧ j < 2 ^ 62) (hn : j.toNat = n) (hl : n ≤ 10000) (ht : ∀ x, x < n → Ev tt ((wipeR ρ vs).set i (some (.fz (.int (x : Int))))) μ (p x)) (h : ∀ x, x < n → EvE te ((wipeR ρ vs).set i (some (.fz (.int (x : Int))))) μ (.fz (f x))) : EvE (wLc false (xRng1 (wCons a wNil)) (gSet i) tt te vs) ρ μ (.fz (.lst (((List.range n).filter p).map f))) := fun Q q => ha _ (by
  subst hn
  refine ⟨hj, small (by unfold upto; rw [List.length_map, List.length_range]; exact hl), ?_⟩
  unfold upto
  refine compX_filter (e := fun x : Nat => .fz (.int (0 + (x : Int)))) p f _ (fun x mx Kt Kf k => ?_) q
  show tt ((wipeR ρ vs).set i (some (.fz (.int (0 + (x : Int)))))) μ _
  rw [Int.zero_add]
  refine ht x (List.mem_range.mp mx) _ ?_
  cases c : p x with
  | true => rw [c] at k; exact h x (List.mem_range.mp mx) _ k
  | false => rw [c] at k; exact k)
theorem ev_all {e : XE} {bs : List Bool} (he : EvE e ρ μ (.fz (.lst (bs.map .bl)))) : EvE (wCall (c1 oAll) (wCons e wNil)) ρ μ (.fz (.bl (bs.all id))) := fun Q q => he _ ⟨bs, rfl, q⟩
theorem ev_any {e : XE} {bs : List Bool} (he : EvE e ρ μ (.fz (.lst (bs.map .bl)))) : EvE (wCall (c1 oAny) (wCons e wNil)) ρ μ (.fz (.bl (bs.any id))) := fun Q q => he _ ⟨bs, rfl, q⟩
end
/-! ### `is` of None and a truth value -/
def oIsM (neg : Bool) : X2 := fun u w μ Q => match u, w with
  | .fz .non, .fz (.bl _) => Q (.fz (.bl neg)) μ
  | u, w => oIs neg u w μ Q
def rNonB (neg : Bool) : R2 := fun x y H Q => ∃ b, x = .non ∧ y = .bl b ∧ Q (.bl neg) H
section
variable {X : Cx}
theorem op_isNB : OpR X (compareOp .Is) (rNonB false) := by
  intro pins s σ H x y v u Q I rx ry h
  obtain ⟨b, rfl, rfl, q⟩ := h
  cases (show v = Value.none from rx)
  cases (show u = Value.bool b from ry)
  exact wpAny_is_other rfl (fun z => nomatch z) ⟨.bl false, H, I, rfl, q⟩
theorem op_notNB : OpR X (compareOp .IsNot) (rNonB true) := by
  intro pins s σ H x y v u Q I rx ry h
  obtain ⟨b, rfl, rfl, q⟩ := h
  cases (show v = Value.none from rx)
  cases (show u = Value.bool b from ry)
  exact wpAny_isNot_other rfl (fun z => nomatch z) ⟨.bl true, H, I, rfl, q⟩
theorem qo_isM : QO X (compareOp .Is) (oIsM false) := OpR.mono (OpR.or qo_is op_isNB) fun x y H R ⟨F, τ, μ, u, w, Q, rh, ru, rw, q, k⟩ => by
  unfold oIsM at q
  split at q
  · exact .inr ⟨_, by cases ru; rfl, bl_of rw, k.ret rh (RepU.fz (.bl _)) q⟩
  · exact .inl ⟨F, τ, μ, _, _, Q, rh, ru, rw, q, k⟩
theorem qo_isnotM : QO X (compareOp .IsNot) (oIsM true) := OpR.mono (OpR.or qo_isnot op_notNB) fun x y H R ⟨F, τ, μ, u, w, Q, rh, ru, rw, q, k⟩ => by
  unfold oIsM at q
  split at q
  · exact .inr ⟨_, by cases ru; rfl, bl_of rw, k.ret rh (RepU.fz (.bl _)) q⟩
  · exact .inl ⟨F, τ, μ, _, _, Q, rh, ru, rw, q, k⟩
end
end W3
/-! systems, likeness, formulas: plain mathematics for the laws on systems -/
namespace MS
open PySem PySem.Spec PyProof.Rows L2 W3 CB
abbrev Tri := Nat × Nat × Nat
structure Sys where
  n : Nat
  arr : List Tri
def lab (l : Nat) : Str := match l with
  | 0 => "a"
  | 1 => "b"
  | 2 => "c"
  | 3 => "d"
  | _ => "e"
theorem lab_inj {i j : Nat} (hi : i < 5) (hj : j < 5) : lab i = lab j ↔ i = j := by
  refine ⟨fun h => ?_, fun h => by rw [h]⟩
  have hi' : i = 0 ∨ i = 1 ∨ i = 2 ∨ i = 3 ∨ i = 4 := by omega
  have hj' : j = 0 ∨ j = 1 ∨ j = 2 ∨ j = 3 ∨ j = 4 := by omega
  rcases hi' with rfl | rfl | rfl | rfl | rfl <;> rcases hj' with rfl | rfl | rfl | rfl | rfl <;> first | rfl | exact absurd h (by decide +kernel)
def cod (t : Tri) : Nat := (t.1 * 5 + t.2.1) * 100 + t.2.2
structure SysOk (S : Sys) : Prop where
  n1 : 1 ≤ S.n
  n12 : S.n ≤ 12
  arr : ∀ t ∈ S.arr, t.1 < S.n ∧ t.2.1 < 5 ∧ t.2.2 < S.n
  up : S.arr.Pairwise fun p q => cod p < cod q
theorem up_len {N : Nat} : ∀ {l : List Tri} {k : Nat}, k ≤ N → (∀ t ∈ l, k ≤ cod t ∧ cod t < N) → l.Pairwise (fun p q => cod p < cod q) → k + l.length ≤ N
  | [], k, h, _, _ => h
  | t :: l, k, _, h, hp => by
    obtain ⟨h1, h2⟩ := List.pairwise_cons.mp hp
    obtain ⟨h3, h4⟩ := h t List.mem_cons_self
    have := up_len (N := N) (l := l) (k := k + 1) (by omega) (fun u m => ⟨by have := h1 u m; omega, (h u (List.mem_cons_of_mem _ m)).2⟩) h2
    rw [List.length_cons]
    omega
theorem SysOk.few {S : Sys} (h : SysOk S) : S.arr.length ≤ 6000 := by
  have := up_len (N := 6000) (l := S.arr) (k := 0) (by omega) (fun t m => ⟨Nat.zero_le _, by
    obtain ⟨a, b, c⟩ := h.arr t m
    have := h.n12
    unfold cod
    omega⟩) h.up
  omega
def triD (t : Tri) : D := .tup [natD t.1, .str (lab t.2.1), natD t.2.2]
def sysD (S : Sys) : D := .tup [natD S.n, .tup (S.arr.map triD)]
def pairN (p : Nat × Nat) : D := .tup [natD p.1, natD p.2]
theorem nodup_sub {α : Type} [DecidableEq α] : ∀ (l m : List α), l.Nodup → (∀ x ∈ l, x ∈ m) → l.length ≤ m.length
  | [], m, _, _ => Nat.zero_le _
  | x :: l, m, nd, h => by
    have hx := h x List.mem_cons_self
    have h1 := nodup_sub l (m.erase x) (List.nodup_cons.mp nd).2 fun y my => by
      have ne : y ≠ x := fun e => (List.nodup_cons.mp nd).1 (e ▸ my)
      exact (List.mem_erase_of_ne ne).mpr (h y (List.mem_cons_of_mem _ my))
    have h2 := List.length_erase_of_mem hx
    have h3 := List.length_pos_of_mem hx
    rw [List.length_cons]
    omega
def succ (S : Sys) (x l : Nat) : List Nat := (S.arr.filter fun t => t.1 == x && t.2.1 == l).map (·.2.2)
theorem mem_succ {S : Sys} {x l z : Nat} : z ∈ succ S x l ↔ (x, l, z) ∈ S.arr := by
  unfold succ
  rw [List.mem_map]
  constructor
  · rintro ⟨⟨a, b, c⟩, h, rfl⟩
    obtain ⟨h1, h2⟩ := List.mem_filter.mp h
    simp only [Bool.and_eq_true, beq_iff_eq] at h2
    obtain ⟨rfl, rfl⟩ := h2
    exact h1
  · intro h
    exact ⟨_, List.mem_filter.mpr ⟨h, by simp⟩, rfl⟩
theorem SysOk.succ_lt {S : Sys} (h : SysOk S) {x l z : Nat} (m : z ∈ succ S x l) : z < S.n := (h.arr _ (mem_succ.mp m)).2.2
theorem SysOk.succ_len {S : Sys} (h : SysOk S) (x l : Nat) : (succ S x l).length ≤ 12 := by
  have nd : (succ S x l).Nodup := by
    unfold succ
    unfold List.Nodup
    rw [List.pairwise_map]
    have h1 := h.up.sublist (List.filter_sublist (p := fun t => t.1 == x && t.2.1 == l))
    refine List.Pairwise.imp_of_mem (fun {p q} mp mq lt e => ?_) h1
    have a := (List.mem_filter.mp mp).2
    have b := (List.mem_filter.mp mq).2
    simp only [Bool.and_eq_true, beq_iff_eq] at a b
    unfold cod at lt
    omega
  have := nodup_sub (succ S x l) (List.range S.n) nd fun z m => List.mem_range.mpr (h.succ_lt m)
  rw [List.length_range] at this
  exact Nat.le_trans this h.n12
/-! likeness -/
def ans (A B : Sys) (R : Nat → Nat → Prop) (x y : Nat) : Prop :=
  (∀ t ∈ A.arr, t.1 = x → ∃ w, (y, t.2.1, w) ∈ B.arr ∧ R t.2.2 w) ∧ ∀ t ∈ B.arr, t.1 = y → ∃ z, (x, t.2.1, z) ∈ A.arr ∧ R z t.2.2
theorem ans_mono {A B : Sys} {R R' : Nat → Nat → Prop} {x y : Nat} (h : ans A B R x y) (m : ∀ z w, z < A.n → w < B.n → R z w → R' z w) (hA : SysOk A) (hB : SysOk B) : ans A B R' x y := by
  refine ⟨fun t ht e => ?_, fun t ht e => ?_⟩
  · obtain ⟨w, h1, h2⟩ := h.1 t ht e
    exact ⟨w, h1, m _ _ (hA.arr t ht).2.2 (hB.arr _ h1).2.2 h2⟩
  · obtain ⟨w, h1, h2⟩ := h.2 t ht e
    exact ⟨w, h1, m _ _ (hA.arr _ h1).2.2 (hB.arr t ht).2.2 h2⟩
def alk (A B : Sys) (x y : Nat) : Prop := ∃ R : Nat → Nat → Prop, R x y ∧ ∀ x y, x < A.n → y < B.n → R x y → ans A B R x y
theorem alk_ans {A B : Sys} (hA : SysOk A) (hB : SysOk B) {x y : Nat} (hx : x < A.n) (hy : y < B.n) (h : alk A B x y) : ans A B (alk A B) x y := by
  obtain ⟨R, r, k⟩ := h
  exact ans_mono (k x y hx hy r) (fun z w _ _ q => ⟨R, q, k⟩) hA hB
/-! formulas -/
inductive Fm where
  | tru
  | neg (f : Fm)
  | conj (l : List Fm)
  | can (l : Nat) (f : Fm)
mutual
def ev (S : Sys) : Fm → Nat → Bool
  | .tru, _ => true
  | .neg f, x => !ev S f x
  | .conj l, x => evs S l x
  | .can l f, x => (succ S x l).any fun z => ev S f z
def evs (S : Sys) : List Fm → Nat → Bool
  | [], _ => true
  | f :: l, x => ev S f x && evs S l x
end
theorem evs_all (S : Sys) (x : Nat) : ∀ l : List Fm, evs S l x = l.all fun f => ev S f x
  | [] => rfl
  | f :: l => by unfold evs; rw [evs_all S x l]; rfl
mutual
def fD : Fm → D
  | .tru => .tup [.str "true"]
  | .neg f => .tup [.str "not", fD f]
  | .conj l => .tup [.str "and", .tup (fDs l)]
  | .can l f => .tup [.str "can", .str (lab l), fD f]
def fDs : List Fm → List D
  | [] => []
  | f :: l => fD f :: fDs l
end
theorem fDs_map : ∀ l : List Fm, fDs l = l.map fD
  | [] => rfl
  | f :: l => by simp only [fDs, List.map_cons]; rw [fDs_map l]
mutual
theorem ev_alk {A B : Sys} (hA : SysOk A) (hB : SysOk B) : ∀ (f : Fm) {x y : Nat}, x < A.n → y < B.n → alk A B x y → ev A f x = ev B f y
  | .tru, _, _, _, _, _ => rfl
  | .neg f, x, y, hx, hy, h => by
    unfold ev
    rw [ev_alk hA hB f hx hy h]
  | .conj l, x, y, hx, hy, h => by
    unfold ev
    exact evs_alk hA hB l hx hy h
  | .can l f, x, y, hx, hy, h => by
    unfold ev
    obtain ⟨h1, h2⟩ := alk_ans hA hB hx hy h
    apply Bool.eq_iff_iff.mpr
    rw [List.any_eq_true, List.any_eq_true]
    constructor
    · rintro ⟨z, mz, e⟩
      obtain ⟨w, mw, r⟩ := h1 _ (mem_succ.mp mz) rfl
      exact ⟨w, mem_succ.mpr mw, by rw [← ev_alk hA hB f (hA.succ_lt mz) (hB.arr _ mw).2.2 r]; exact e⟩
    · rintro ⟨w, mw, e⟩
      obtain ⟨z, mz, r⟩ := h2 _ (mem_succ.mp mw) rfl
      exact ⟨z, mem_succ.mpr mz, by rw [ev_alk hA hB f (hA.arr _ mz).2.2 (hB.succ_lt mw) r]; exact e⟩
theorem evs_alk {A B : Sys} (hA : SysOk A) (hB : SysOk B) : ∀ (l : List Fm) {x y : Nat}, x < A.n → y < B.n → alk A B x y → evs A l x = evs B l y
  | [], _, _, _, _, _ => rfl
  | f :: l, x, y, hx, hy, h => by
    unfold evs
    rw [ev_alk hA hB f hx hy h, evs_alk hA hB l hx hy h]
end
def tells (A B : Sys) (x y : Nat) (f : Fm) : Prop := ev A f x = true ∧ ev B f y = false
theorem tells_neg {A B : Sys} {x y : Nat} {f : Fm} (h : tells A B x y f) : tells B A y x (.neg f) := by
  unfold tells ev
  exact ⟨by rw [h.2]; rfl, by rw [h.1]; rfl⟩
theorem tells_un {A B : Sys} {x y : Nat} {f : Fm} (h : tells A B x y (.neg f)) : tells B A y x f := by
  unfold tells ev at h
  obtain ⟨h1, h2⟩ := h
  exact ⟨by simpa using h2, by simpa using h1⟩
/-- the arrow of x that no arrow of y answers -/
def goes (A : Sys) (x : Nat) (B : Sys) (y : Nat) (p : Nat → Nat → Bool) : Option Tri := A.arr.find? fun t => t.1 == x && (succ B y t.2.1).all fun w => p t.2.2 w
theorem goes_some {A B : Sys} {x y : Nat} {p : Nat → Nat → Bool} {t : Tri} (h : goes A x B y p = some t) : t ∈ A.arr ∧ t.1 = x ∧ ∀ w ∈ succ B y t.2.1, p t.2.2 w = true := by
  have h1 := List.find?_some h
  simp only [Bool.and_eq_true, beq_iff_eq, List.all_eq_true] at h1
  exact ⟨List.mem_of_find?_eq_some h, h1.1, h1.2⟩
theorem goes_none {A B : Sys} {x y : Nat} {p : Nat → Nat → Bool} (h : goes A x B y p = none) : ∀ t ∈ A.arr, t.1 = x → ∃ w, (y, t.2.1, w) ∈ B.arr ∧ p t.2.2 w = false := fun t ht e => by
  have h1 := List.find?_eq_none.mp h t ht
  simp only [Bool.and_eq_true, beq_iff_eq, List.all_eq_true, not_and, Classical.not_forall] at h1
  obtain ⟨w, m, h2⟩ := h1 e
  exact ⟨w, mem_succ.mp m, by simpa using h2⟩
/-- the formula of a step -/
theorem tells_can {A B : Sys} {x y : Nat} {t : Tri} {fs : List Fm} (ht : t ∈ A.arr) (e : t.1 = x) (h1 : ∀ f ∈ fs, ev A f t.2.2 = true) (h2 : ∀ w ∈ succ B y t.2.1, ∃ f ∈ fs, ev B f w = false) : tells A B x y (.can t.2.1 (.conj fs)) := by
  unfold tells ev
  constructor
  · rw [List.any_eq_true]
    refine ⟨t.2.2, mem_succ.mpr (e ▸ ht), ?_⟩
    unfold ev
    rw [evs_all, List.all_eq_true]
    exact h1
  · rw [List.any_eq_false]
    intro w m
    obtain ⟨f, mf, ef⟩ := h2 w m
    unfold ev
    rw [evs_all, Bool.not_eq_true]
    exact List.all_eq_false.mpr ⟨f, mf, by rw [ef]; decide⟩
/-- where no step is left the rest is a likeness -/
theorem alk_of_closed {A B : Sys} (hA : SysOk A) (hB : SysOk B) {p : Nat → Nat → Bool} (h : ∀ x y, x < A.n → y < B.n → p x y = false → goes A x B y p = none ∧ goes B y A x (fun y x => p x y) = none) {x y : Nat} (hx : x < A.n) (hy : y < B.n) (e : p x y = false) : alk A B x y := by
  refine ⟨fun x y => p x y = false, e, fun x y hx hy e => ?_⟩
  obtain ⟨h1, h2⟩ := h x y hx hy e
  exact ⟨fun t ht et => goes_none h1 t ht et, fun t ht et => by
    obtain ⟨z, m, q⟩ := goes_none h2 t ht et
    exact ⟨z, m, q⟩⟩
/-! rising pairs, sets of pairs -/
def lexN (p q : Nat × Nat) : Prop := p.1 < q.1 ∨ (p.1 = q.1 ∧ p.2 < q.2)
def ArePairs (A B : Sys) (ps : List (Nat × Nat)) : Prop := (∀ p ∈ ps, p.1 < A.n ∧ p.2 < B.n) ∧ ps.Pairwise lexN
def IsPairs (A B : Sys) (v : D) : Prop := ∃ ps, v = .tup (ps.map pairN) ∧ ArePairs A B ps
def IsLk (A B : Sys) (v : D) : Prop := ∃ ps, v = .tup (ps.map pairN) ∧ ArePairs A B ps ∧ ∀ p ∈ ps, ans A B (fun z w => (z, w) ∈ ps) p.1 p.2
theorem pairN_inj {p q : Nat × Nat} (h : pairN p = pairN q) : p = q := by
  obtain ⟨a, b⟩ := p
  obtain ⟨c, d⟩ := q
  simp only [pairN, natD, D.tup.injEq, List.cons.injEq, D.int.injEq, and_true] at h
  have h1 : a = c := by omega
  have h2 : b = d := by omega
  rw [h1, h2]
theorem pairsN_inj : ∀ {p q : List (Nat × Nat)}, p.map pairN = q.map pairN → p = q
  | [], [], _ => rfl
  | [], _ :: _, h => by cases h
  | _ :: _, [], h => by cases h
  | a :: p, b :: q, h => by
    rw [List.map_cons, List.map_cons] at h
    injection h with h1 h2
    rw [pairN_inj h1, pairsN_inj h2]
/-- all pairs that look alike -/
structure LikeL (A B : Sys) (P : List (Nat × Nat)) : Prop where
  nd : P.Nodup
  lt : ∀ p ∈ P, p.1 < A.n ∧ p.2 < B.n
  iff : ∀ x y, x < A.n → y < B.n → ((x, y) ∈ P ↔ alk A B x y)
def k2 (p : Nat × Nat) : List Key := [.inl (p.1 : Int), .inl (p.2 : Int)]
theorem k2_inj {p q : Nat × Nat} (h : k2 p = k2 q) : p = q := by
  obtain ⟨a, b⟩ := p
  obtain ⟨c, d⟩ := q
  simp only [k2, List.cons.injEq, Sum.inl.injEq, and_true] at h
  have h1 : a = c := by omega
  have h2 : b = d := by omega
  rw [h1, h2]
def k3 (t : Tri) : List Key := [.inl (t.1 : Int), .inr (lab t.2.1), .inl (t.2.2 : Int)]
theorem k3_inj {p q : Tri} (hp : p.2.1 < 5) (hq : q.2.1 < 5) (h : k3 p = k3 q) : p = q := by
  obtain ⟨a, l, b⟩ := p
  obtain ⟨c, m, d⟩ := q
  simp only [k3, List.cons.injEq, Sum.inl.injEq, Sum.inr.injEq, and_true] at h
  have h1 : a = c := by omega
  have h2 : b = d := by omega
  have h3 := (lab_inj hp hq).mp h.2.1
  simp only at h3
  rw [h1, h2, h3]
/-! the numbers of classes -/
def mxI : List Int → Int
  | [] => -1
  | x :: l => max x (mxI l)
def cls (p : Nat → Nat → Bool) : Nat → List Int
  | 0 => []
  | x + 1 => cls p x ++ [match (List.range x).filter (p x) with
    | [] => mxI (cls p x) + 1
    | y :: _ => (cls p x).getD y 0]
theorem cls_len (p : Nat → Nat → Bool) : ∀ x, (cls p x).length = x
  | 0 => rfl
  | x + 1 => by unfold cls; rw [List.length_append, cls_len p x]; rfl
theorem mxI_ge : ∀ {l : List Int}, -1 ≤ mxI l
  | [] => by unfold mxI; omega
  | x :: l => by unfold mxI; have := mxI_ge (l := l); omega
theorem le_mxI : ∀ {l : List Int} {x : Int}, x ∈ l → x ≤ mxI l
  | y :: l, x, h => by
    unfold mxI
    rcases List.mem_cons.mp h with rfl | h
    · omega
    · have := le_mxI h; omega
theorem mxI_mem : ∀ {l : List Int}, mxI l = -1 ∨ mxI l ∈ l
  | [] => .inl rfl
  | x :: l => by
    unfold mxI
    by_cases c : x ≤ mxI l
    · rw [show max x (mxI l) = mxI l by omega]
      rcases mxI_mem (l := l) with h | h
      · exact .inl h
      · exact .inr (List.mem_cons_of_mem _ h)
    · rw [show max x (mxI l) = x by omega]
      exact .inr List.mem_cons_self
/-! bounded formulas -/
mutual
def hgt : Fm → Nat
  | .tru => 0
  | .neg f => hgt f + 1
  | .conj l => hgts l + 1
  | .can _ f => hgt f + 1
def hgts : List Fm → Nat
  | [] => 0
  | f :: l => max (hgt f) (hgts l)
end
mutual
def okF : Fm → Bool
  | .tru => true
  | .neg f => okF f
  | .conj l => decide (l.length ≤ 12) && okFs l
  | .can l f => decide (l < 5) && okF f
def okFs : List Fm → Bool
  | [] => true
  | f :: l => okF f && okFs l
end
theorem okFs_all : ∀ l : List Fm, okFs l = l.all okF
  | [] => rfl
  | f :: l => by unfold okFs; rw [okFs_all l]; rfl
theorem hgts_le {m : Nat} : ∀ {l : List Fm}, (∀ f ∈ l, hgt f ≤ m) → hgts l ≤ m
  | [], _ => Nat.zero_le _
  | s :: l, h => by unfold hgts; exact Nat.max_le.mpr ⟨h s List.mem_cons_self, hgts_le fun t m => h t (List.mem_cons_of_mem _ m)⟩
theorem le_hgts : ∀ {l : List Fm} {f : Fm}, f ∈ l → hgt f ≤ hgts l
  | t :: l, s, h => by
    unfold hgts
    rcases List.mem_cons.mp h with rfl | h
    · exact Nat.le_max_left _ _
    · exact Nat.le_trans (le_hgts h) (Nat.le_max_right _ _)
structure FOk (M : Nat) (f : Fm) : Prop where
  h : hgt f ≤ M
  ok : okF f = true
/-- what is told of two systems -/
structure Told (A B : Sys) (kds : List (List Key × D)) : Prop where
  iff : ∀ x y, x < A.n → y < B.n → ((look kds (k2 (x, y))).isSome = true ↔ ¬ alk A B x y)
  fm : ∀ x y d, x < A.n → y < B.n → look kds (k2 (x, y)) = some d → ∃ f, d = fD f ∧ tells A B x y f ∧ FOk (3 * (A.n * B.n) + 1) f
open Classical in
noncomputable def alkB (A B : Sys) (x y : Nat) : Bool := decide (alk A B x y)
open Classical in
theorem alkB_iff {A B : Sys} {x y : Nat} : alkB A B x y = true ↔ alk A B x y := by unfold alkB; exact decide_eq_true_iff
open Classical in
noncomputable def isPairsB (A B : Sys) (v : D) : Bool := decide (IsPairs A B v)
open Classical in
noncomputable def isLkB (A B : Sys) (v : D) : Bool := decide (IsLk A B v)
open Classical in
theorem isPairsB_t {A B : Sys} {v : D} (h : IsPairs A B v) : isPairsB A B v = true := by unfold isPairsB; exact decide_eq_true h
open Classical in
theorem isPairsB_f {A B : Sys} {v : D} (h : ¬ IsPairs A B v) : isPairsB A B v = false := by unfold isPairsB; exact decide_eq_false h
open Classical in
theorem isLkB_t {A B : Sys} {v : D} (h : IsLk A B v) : isLkB A B v = true := by unfold isLkB; exact decide_eq_true h
open Classical in
theorem isLkB_f {A B : Sys} {v : D} (h : ¬ IsLk A B v) : isLkB A B v = false := by unfold isLkB; exact decide_eq_false h
def isIntD : D → Bool
  | .int _ => true
  | _ => false
def optTri (B : Sys) (y : Nat) : Option Tri → D
  | none => .non
  | some t => .tup [.str (lab t.2.1), natD t.2.2, .lst ((succ B y t.2.1).map natD)]
/-! odd values -/
inductive Odd (k : Nat) : D → Prop
  | non : Odd k .non
  | bl (b : Bool) : Odd k (.bl b)
  | int (i : Int) : Odd k (.int i)
  | str (s : Str) : Odd k (.str s)
  | tup (ds : List D) : ds.length ≤ k → (∀ d ∈ ds, Odd k d) → Odd k (.tup ds)
theorem Odd.mono {k m : Nat} (h : k ≤ m) {d : D} (o : Odd k d) : Odd m d := by
  induction o with
  | non => exact .non
  | bl b => exact .bl b
  | int b => exact .int b
  | str b => exact .str b
  | tup ds hl _ ih => exact .tup ds (Nat.le_trans hl h) ih
theorem odd_nat {k n : Nat} : Odd k (natD n) := .int _
theorem odd_pair {k : Nat} (h : 2 ≤ k) (p : Nat × Nat) : Odd k (pairN p) := .tup _ (by show 2 ≤ k; omega) fun d m => by
  simp only [List.mem_cons, List.not_mem_nil, or_false] at m
  rcases m with rfl | rfl <;> exact .int _
end MS
/-! what Python's == and in say of pairs, arrows, labels -/
namespace MS
open PySem PySem.Spec PyProof.Rows L2 W3 CB
def EqQ (p q : D) (neg : Bool) (Q : Bool → Prop) : Prop := ∃ a b, toPy p = some a ∧ toPy q = some b ∧ SeqAt.shaped a = true ∧ SeqAt.shaped b = true ∧ Q (if neg = true then !PyData.eqv a b else PyData.eqv a b)
def InQ (p s : D) (neg : Bool) (Q : Bool → Prop) : Prop := ∃ a t ps, toPy p = some a ∧ toPy s = some t ∧ unList t = some ps ∧ SeqAt.shaped a = true ∧ SeqAt.shaped t = true ∧ Q (if neg = true then !ps.any fun z => PyData.eqv z a else ps.any fun z => PyData.eqv z a)
def ngB (neg b : Bool) : Bool := if neg = true then !b else b
def pyP (p : Nat × Nat) : PyData := .tuple [.int p.1, .int p.2]
theorem toPy_P (p : Nat × Nat) : toPy (pairN p) = some (pyP p) := by simp only [pairN, natD, toPy, toPys]; rfl
theorem toPys_P : ∀ l : List (Nat × Nat), toPys (l.map pairN) = some (l.map pyP)
  | [] => by simp only [List.map_nil, toPys]
  | p :: l => by simp only [List.map_cons, toPys, toPy_P, toPys_P l]
theorem shaped_P (p : Nat × Nat) : SeqAt.shaped (pyP p) = true := by unfold SeqAt.shaped pyP; simp [PyData.canLay0, PyData.canLayAll0, PyData.depth, PyData.depthAll]
theorem lay_Ps : ∀ l : List (Nat × Nat), PyData.canLayAll0 (l.map pyP) = true
  | [] => by simp [PyData.canLayAll0]
  | p :: l => by simp only [List.map_cons, PyData.canLayAll0, lay_Ps l]; simp [pyP, PyData.canLay0, PyData.canLayAll0]
theorem dep_Ps : ∀ l : List (Nat × Nat), PyData.depthAll (l.map pyP) ≤ 3
  | [] => by simp [PyData.depthAll]
  | p :: l => by
    have := dep_Ps l
    simp only [List.map_cons, PyData.depthAll]
    simp [pyP, PyData.depth, PyData.depthAll]
    omega
theorem shaped_Ps (l : List (Nat × Nat)) : SeqAt.shaped (.tuple (l.map pyP)) = true := by
  have h1 := lay_Ps l
  have h2 := dep_Ps l
  unfold SeqAt.shaped
  simp [PyData.canLay0, PyData.depth, h1]
  omega
theorem eqv_P (p q : Nat × Nat) : PyData.eqv (pyP p) (pyP q) = decide (p = q) := by
  obtain ⟨a, b⟩ := p
  obtain ⟨c, d⟩ := q
  unfold pyP
  apply Bool.eq_iff_iff.mpr
  simp [PyData.eqv, PyData.eqvAll]
  omega
theorem any_P (l : List (Nat × Nat)) (p : Nat × Nat) : ((l.map pyP).any fun z => PyData.eqv z (pyP p)) = decide (p ∈ l) := by
  rw [List.any_map]
  apply Bool.eq_iff_iff.mpr
  rw [List.any_eq_true, decide_eq_true_eq]
  constructor
  · rintro ⟨q, m, h⟩
    have h : PyData.eqv (pyP q) (pyP p) = true := h
    rw [eqv_P] at h
    exact of_decide_eq_true h ▸ m
  · intro m
    exact ⟨p, m, by show PyData.eqv (pyP p) (pyP p) = true; rw [eqv_P]; exact decide_eq_true rfl⟩
theorem in_P (l : List (Nat × Nat)) (p : Nat × Nat) (neg : Bool) {Q : Bool → Prop} (h : Q (ngB neg (decide (p ∈ l)))) : InQ (pairN p) (.tup (l.map pairN)) neg Q := by
  refine ⟨pyP p, .tuple (l.map pyP), l.map pyP, toPy_P p, by simp only [toPy, toPys_P]; rfl, rfl, shaped_P p, shaped_Ps l, ?_⟩
  rw [any_P]; exact h
/-! labels -/
theorem lab_ok {l : Nat} (h : l < 5) : PyData.strOk (lab l) = true := by
  have hi' : l = 0 ∨ l = 1 ∨ l = 2 ∨ l = 3 ∨ l = 4 := by omega
  rcases hi' with rfl | rfl | rfl | rfl | rfl <;> decide +kernel
theorem shaped_S {x : Str} (h : PyData.strOk x = true) : SeqAt.shaped (.str x) = true := by unfold SeqAt.shaped; simp [PyData.canLay0, PyData.depth, h]
theorem eq_S {i j : Nat} (hi : i < 5) (hj : j < 5) (neg : Bool) {Q : Bool → Prop} (h : Q (ngB neg (decide (i = j)))) : EqQ (.str (lab i)) (.str (lab j)) neg Q := by
  refine ⟨.str (lab i), .str (lab j), rfl, rfl, shaped_S (lab_ok hi), shaped_S (lab_ok hj), ?_⟩
  have e : PyData.eqv (.str (lab i)) (.str (lab j)) = decide (i = j) := by
    apply Bool.eq_iff_iff.mpr
    simp only [PyData.eqv, beq_iff_eq, decide_eq_true_eq]
    exact lab_inj hi hj
  rw [e]; exact h
theorem in_labs {l : Nat} (h : l < 5) {Q : Bool → Prop} (q : Q true) : InQ (.str (lab l)) (.ktup ((([("a" : Str), "b", "c", "d", "e"]).map .str))) false Q := by
  have hi' : l = 0 ∨ l = 1 ∨ l = 2 ∨ l = 3 ∨ l = 4 := by omega
  refine ⟨.str (lab l), .tuple [.str "a", .str "b", .str "c", .str "d", .str "e"], [.str "a", .str "b", .str "c", .str "d", .str "e"], rfl, rfl, rfl, shaped_S (lab_ok h), ?_, ?_⟩
  · unfold SeqAt.shaped; simp [PyData.canLay0, PyData.canLayAll0, PyData.depth, PyData.depthAll]; decide +kernel
  · have e : ([PyData.str "a", .str "b", .str "c", .str "d", .str "e"].any fun z => PyData.eqv z (.str (lab l))) = true := by
      rcases hi' with rfl | rfl | rfl | rfl | rfl <;> (simp [PyData.eqv]; decide +kernel)
    rw [e]; exact q
/-! arrows -/
def pyT (t : Tri) : PyData := .tuple [.int t.1, .str (lab t.2.1), .int t.2.2]
theorem toPy_T (t : Tri) : toPy (triD t) = some (pyT t) := by simp only [triD, natD, toPy, toPys]; rfl
theorem toPys_T : ∀ l : List Tri, toPys (l.map triD) = some (l.map pyT)
  | [] => by simp only [List.map_nil, toPys]
  | p :: l => by simp only [List.map_cons, toPys, toPy_T, toPys_T l]
theorem shaped_T {t : Tri} (h : t.2.1 < 5) : SeqAt.shaped (pyT t) = true := by
  have := lab_ok h
  unfold SeqAt.shaped pyT; simp [PyData.canLay0, PyData.canLayAll0, PyData.depth, PyData.depthAll, this]
theorem lay_Ts : ∀ l : List Tri, (∀ t ∈ l, t.2.1 < 5) → PyData.canLayAll0 (l.map pyT) = true
  | [], _ => by simp [PyData.canLayAll0]
  | p :: l, h => by
    have := lab_ok (h p List.mem_cons_self)
    simp only [List.map_cons, PyData.canLayAll0, lay_Ts l fun t m => h t (List.mem_cons_of_mem _ m)]; simp [pyT, PyData.canLay0, PyData.canLayAll0, this]
theorem dep_Ts : ∀ l : List Tri, PyData.depthAll (l.map pyT) ≤ 3
  | [] => by simp [PyData.depthAll]
  | p :: l => by
    have := dep_Ts l
    simp only [List.map_cons, PyData.depthAll]
    simp [pyT, PyData.depth, PyData.depthAll]
    omega
theorem shaped_Ts {l : List Tri} (h : ∀ t ∈ l, t.2.1 < 5) : SeqAt.shaped (.tuple (l.map pyT)) = true := by
  have h1 := lay_Ts l h
  have h2 := dep_Ts l
  unfold SeqAt.shaped
  simp [PyData.canLay0, PyData.depth, h1]
  omega
theorem eqv_T {p q : Tri} (hp : p.2.1 < 5) (hq : q.2.1 < 5) : PyData.eqv (pyT p) (pyT q) = decide (p = q) := by
  obtain ⟨a, l, b⟩ := p
  obtain ⟨c, m, d⟩ := q
  have e := lab_inj hp hq
  unfold pyT
  apply Bool.eq_iff_iff.mpr
  simp only at e
  simp [PyData.eqv, PyData.eqvAll, e]
  omega
theorem any_T {l : List Tri} {p : Tri} (hl : ∀ t ∈ l, t.2.1 < 5) (hp : p.2.1 < 5) : ((l.map pyT).any fun z => PyData.eqv z (pyT p)) = decide (p ∈ l) := by
  rw [List.any_map]
  apply Bool.eq_iff_iff.mpr
  rw [List.any_eq_true, decide_eq_true_eq]
  constructor
  · rintro ⟨q, m, h⟩
    have h : PyData.eqv (pyT q) (pyT p) = true := h
    rw [eqv_T (hl q m) hp] at h
    exact of_decide_eq_true h ▸ m
  · intro m
    exact ⟨p, m, by show PyData.eqv (pyT p) (pyT p) = true; rw [eqv_T hp hp]; exact decide_eq_true rfl⟩
theorem in_T {l : List Tri} {p : Tri} (hl : ∀ t ∈ l, t.2.1 < 5) (hp : p.2.1 < 5) (neg : Bool) {Q : Bool → Prop} (h : Q (ngB neg (decide (p ∈ l)))) : InQ (triD p) (.tup (l.map triD)) neg Q := by
  refine ⟨pyT p, .tuple (l.map pyT), l.map pyT, toPy_T p, by simp only [toPy, toPys_T]; rfl, rfl, shaped_T hp, shaped_Ts hl, ?_⟩
  rw [any_T hl hp]; exact h
theorem eq_T {p q : Tri} (hp : p.2.1 < 5) (hq : q.2.1 < 5) (neg : Bool) {Q : Bool → Prop} (h : Q (ngB neg (decide (p = q)))) : EqQ (triD p) (triD q) neg Q := by
  refine ⟨pyT p, pyT q, toPy_T p, toPy_T q, shaped_T hp, shaped_T hq, ?_⟩
  rw [eqv_T hp hq]; exact h
/-! lists against [] -/
theorem eq_nilN (l : List Nat) (neg : Bool) {Q : Bool → Prop} (q : Q (ngB neg l.isEmpty)) : EqQ (.lst (l.map natD)) (.lst []) neg Q := by
  refine ⟨.list (pyR l), .list [], by unfold toPy; rw [toPys_nat]; rfl, rfl, shaped_natL l, ?_, ?_⟩
  · unfold SeqAt.shaped; simp [PyData.canLay0, PyData.canLayAll0, PyData.depth, PyData.depthAll]
  · have e : PyData.eqv (.list (pyR l)) (.list []) = l.isEmpty := by
      cases l with
      | nil => simp [pyR, PyData.eqv, PyData.eqvAll]
      | cons s l => simp [pyR, PyData.eqv, PyData.eqvAll]
    rw [e]; exact q
/-! rows of ints -/
def pyI (r : List Int) : List PyData := r.map .int
theorem toPys_I : ∀ r : List Int, toPys (r.map .int) = some (pyI r)
  | [] => by simp only [List.map_nil, toPys]; rfl
  | n :: r => by simp only [List.map_cons, toPys, toPy]; rw [toPys_I r]; rfl
theorem lay_I : ∀ r : List Int, PyData.canLayAll0 (pyI r) = true
  | [] => by simp [pyI, PyData.canLayAll0]
  | n :: r => by
    have := lay_I r
    unfold pyI at this ⊢
    simp [PyData.canLayAll0, PyData.canLay0, this]
theorem dep_I : ∀ r : List Int, PyData.depthAll (pyI r) ≤ 1
  | [] => by simp [pyI, PyData.depthAll]
  | n :: r => by
    have := dep_I r
    unfold pyI at this ⊢
    simp [PyData.depthAll, PyData.depth]
    omega
theorem shaped_I (r : List Int) : SeqAt.shaped (.tuple (pyI r)) = true := by
  have h1 := lay_I r
  have h2 := dep_I r
  unfold SeqAt.shaped
  simp [PyData.canLay0, PyData.depth, h1]
  omega
theorem shaped_IL (r : List Int) : SeqAt.shaped (.list (pyI r)) = true := by
  have h1 := lay_I r
  have h2 := dep_I r
  unfold SeqAt.shaped
  simp [PyData.canLay0, PyData.depth, h1]
  omega
theorem eqv_same : ∀ r : List Int, PyData.eqvAll (pyI r) (pyI r) = true
  | [] => by simp [pyI, PyData.eqvAll]
  | n :: r => by
    have := eqv_same r
    unfold pyI at this ⊢
    simp [PyData.eqvAll, PyData.eqv, this]
theorem ne_same (r : List Int) {Q : Bool → Prop} (q : Q false) : EqQ (.tup (r.map .int)) (.tup (r.map .int)) true Q := by
  refine ⟨.tuple (pyI r), .tuple (pyI r), by unfold toPy; rw [toPys_I]; rfl, by unfold toPy; rw [toPys_I]; rfl, shaped_I r, shaped_I r, ?_⟩
  have e : PyData.eqv (.tuple (pyI r)) (.tuple (pyI r)) = true := by
    unfold PyData.eqv; exact eqv_same r
  rw [e]; exact q
theorem eq_nilI (l : List Int) (neg : Bool) {Q : Bool → Prop} (q : Q (ngB neg l.isEmpty)) : EqQ (.lst (l.map .int)) (.lst []) neg Q := by
  refine ⟨.list (pyI l), .list [], by unfold toPy; rw [toPys_I]; rfl, rfl, shaped_IL l, ?_, ?_⟩
  · unfold SeqAt.shaped; simp [PyData.canLay0, PyData.canLayAll0, PyData.depth, PyData.depthAll]
  · have e : PyData.eqv (.list (pyI l)) (.list []) = l.isEmpty := by
      cases l with
      | nil => simp [pyI, PyData.eqv, PyData.eqvAll]
      | cons s l => simp [pyI, PyData.eqv, PyData.eqvAll]
    rw [e]; exact q
/-! a dict of data -/
def dTm (kds : List (List Key × D)) : MO := .dT (kds.map fun p => (p.1, .fz p.2))
theorem ok_dTm (n : Nat) (kds : List (List Key × D)) : okM n (dTm kds) = true := by
  show (kds.map fun p => (p.1, U.fz p.2)).all (fun p => okU n p.2) = true
  rw [List.all_map, List.all_eq_true]
  intro p _
  rfl
theorem look_dTm (kds : List (List Key × D)) (k : List Key) : look (kds.map fun p => (p.1, U.fz p.2)) k = (look kds k).map .fz := by
  unfold look
  rw [List.find?_map]
  cases e : kds.find? ((fun kv => decide (kv.1 = k)) ∘ fun p => (p.1, U.fz p.2)) with
  | none =>
    have e' : kds.find? (fun kv => decide (kv.1 = k)) = none := e
    rw [e']; rfl
  | some p =>
    have e' : kds.find? (fun kv => decide (kv.1 = k)) = some p := e
    rw [e']; rfl
theorem put_dTm (kds : List (List Key × D)) (k : List Key) (d : D) : putA (kds.map fun p => (p.1, U.fz p.2)) k (.fz d) = (putA kds k d).map fun p => (p.1, U.fz p.2) := by
  unfold putA
  rw [List.any_map]
  by_cases c : (kds.any fun kv => decide (kv.1 = k)) = true
  · rw [if_pos c, if_pos (show (kds.any ((fun kv => decide (kv.1 = k)) ∘ fun p => (p.1, U.fz p.2))) = true from c), List.map_map, List.map_map]
    apply List.map_congr_left
    intro p _
    show (if p.1 = k then (p.1, U.fz d) else (p.1, U.fz p.2)) = ((if p.1 = k then (p.1, d) else p).1, U.fz (if p.1 = k then (p.1, d) else p).2)
    split <;> rfl
  · rw [if_neg c, if_neg (show ¬ (kds.any ((fun kv => decide (kv.1 = k)) ∘ fun p => (p.1, U.fz p.2))) = true from c), List.map_append]
    rfl
theorem unK_dTm : ∀ kds : List (List Key × D), unK (kds.map fun p => (p.1, U.fz p.2)) = some kds
  | [] => rfl
  | (k, d) :: r => by
    rw [List.map_cons]
    unfold unK
    rw [unK_dTm r]
    rfl
end MS
/-! odd values, and what is a system, a formula, a wide formula, a sentence among them: plain mathematics for the law on what is none -/
namespace M19
open PySem PySem.Spec PyProof.Rows L2 W3 CB MS
def wordsL : List Str := ["", "true", "not", "and", "can", "a", "b", "c", "d", "e", "name", "least", "most", "same", "some", "tied"]
/-- odd values of some depth, of tuples of some length at most -/
inductive Od (L : Nat) : Nat → D → Prop
  | non (k : Nat) : Od L (k + 1) .non
  | bl (k : Nat) (b : Bool) : Od L (k + 1) (.bl b)
  | int (k : Nat) (i : Int) : Od L (k + 1) (.int i)
  | str (k : Nat) (s : Str) : s ∈ wordsL → Od L (k + 1) (.str s)
  | tup (k : Nat) (ds : List D) : ds.length ≤ L → (∀ d ∈ ds, Od L k d) → Od L (k + 1) (.tup ds)
theorem Od.mono {L M : Nat} (hL : L ≤ M) : ∀ {k m : Nat} {d : D}, k ≤ m → Od L k d → Od M m d
  | 0, _, _, _, o => by cases o
  | k + 1, 0, _, h, _ => by omega
  | k + 1, m + 1, _, h, o => by
    cases o with
    | non => exact .non _
    | bl _ b => exact .bl _ b
    | int _ i => exact .int _ i
    | str _ s hs => exact .str _ s hs
    | tup _ ds hl ho => exact .tup _ ds (by omega) fun d m' => (ho d m').mono hL (by omega)
theorem words_ok : ∀ s ∈ wordsL, PyData.strOk s = true := by decide +kernel
theorem od_py {L : Nat} : ∀ {k : Nat} {d : D}, Od L k d → ∃ p, toPy d = some p ∧ p.canLay0 = true ∧ p.depth ≤ 2 * k
  | 0, _, o => by cases o
  | k + 1, _, o => by
    cases o with
    | non => exact ⟨.none, by simp only [toPy], by simp [PyData.canLay0], by simp [PyData.depth]⟩
    | bl _ b => exact ⟨.bool b, by simp only [toPy], by simp [PyData.canLay0], by simp [PyData.depth]⟩
    | int _ i => exact ⟨.int i, by simp only [toPy], by simp [PyData.canLay0], by simp [PyData.depth]⟩
    | str _ s hs => exact ⟨.str s, by simp only [toPy], by simp [PyData.canLay0, words_ok s hs], by simp [PyData.depth]⟩
    | tup _ ds hl ho =>
      have : ∃ ps, toPys ds = some ps ∧ PyData.canLayAll0 ps = true ∧ PyData.depthAll ps ≤ 2 * k + 1 := by
        clear hl
        induction ds with
        | nil => exact ⟨[], by simp only [toPys], by simp [PyData.canLayAll0], by simp [PyData.depthAll]⟩
        | cons d ds ih =>
          obtain ⟨ps, h1, h2, h3⟩ := ih fun d m => ho d (List.mem_cons_of_mem _ m)
          obtain ⟨p, g1, g2, g3⟩ := od_py (ho d List.mem_cons_self)
          refine ⟨p :: ps, by simp only [toPys, h1, g1], by simp [PyData.canLayAll0, h2, g2], ?_⟩
          simp only [PyData.depthAll]
          omega
      obtain ⟨ps, h1, h2, h3⟩ := this
      refine ⟨.tuple ps, by simp only [toPy, h1]; rfl, by simp [PyData.canLay0, h2], ?_⟩
      simp only [PyData.depth]
      omega
theorem ods_py {L k : Nat} : ∀ {ds : List D}, (∀ d ∈ ds, Od L k d) → ∃ ps, toPys ds = some ps ∧ ps.length = ds.length ∧ PyData.canLayAll0 ps = true ∧ PyData.depthAll ps ≤ 2 * k + 1
  | [], _ => ⟨[], by simp only [toPys], rfl, by simp [PyData.canLayAll0], by simp [PyData.depthAll]⟩
  | d :: ds, ho => by
    obtain ⟨ps, h1, h0, h2, h3⟩ := ods_py (ds := ds) fun d m => ho d (List.mem_cons_of_mem _ m)
    obtain ⟨p, g1, g2, g3⟩ := od_py (ho d List.mem_cons_self)
    refine ⟨p :: ps, by simp only [toPys, h1, g1], by simp [h0], by simp [PyData.canLayAll0, h2, g2], ?_⟩
    simp only [PyData.depthAll]
    omega
/-- a list of odd values held against the empty list -/
theorem eq_nilO {L k : Nat} {l : List D} (h : ∀ d ∈ l, Od L k d) (hk : k ≤ 25) (neg : Bool) {Q : Bool → Prop} (q : Q (if neg = true then !l.isEmpty else l.isEmpty)) : ∃ p r, toPy (.lst l) = some p ∧ toPy (.lst []) = some r ∧ SeqAt.shaped p = true ∧ SeqAt.shaped r = true ∧ Q (if neg = true then !PyData.eqv p r else PyData.eqv p r) := by
  obtain ⟨ps, h1, h0, h2, h3⟩ := ods_py h
  refine ⟨.list ps, .list [], by simp only [toPy, h1]; rfl, by simp only [toPy, toPys]; rfl, ?_, ?_, ?_⟩
  · unfold SeqAt.shaped
    simp [PyData.canLay0, PyData.depth, h2]
    omega
  · unfold SeqAt.shaped; simp [PyData.canLay0, PyData.canLayAll0, PyData.depth, PyData.depthAll]
  · have e : PyData.eqv (.list ps) (.list []) = l.isEmpty := by
      cases ps with
      | nil => cases l with
        | nil => simp [PyData.eqv, PyData.eqvAll]
        | cons _ _ => simp at h0
      | cons _ _ => cases l with
        | nil => simp at h0
        | cons _ _ => simp [PyData.eqv, PyData.eqvAll]
    rw [e]; exact q
/-- an odd value that is no text, held against a text -/
theorem eq_no {L k : Nat} {d : D} (o : Od L k d) (hk : k ≤ 25) (ns : ∀ s, d ≠ .str s) (w : Str) (hw : PyData.strOk w = true) (neg : Bool) {Q : Bool → Prop} (q : Q neg) : ∃ p r, toPy d = some p ∧ toPy (.str w) = some r ∧ SeqAt.shaped p = true ∧ SeqAt.shaped r = true ∧ Q (if neg = true then !PyData.eqv p r else PyData.eqv p r) := by
  obtain ⟨p, h1, h2, h3⟩ := od_py o
  refine ⟨p, .str w, h1, by simp only [toPy], ?_, ?_, ?_⟩
  · unfold SeqAt.shaped
    simp [h2]
    omega
  · unfold SeqAt.shaped; simp [PyData.canLay0, PyData.depth, hw]
  · have e : PyData.eqv p (.str w) = false := by
      cases o with
      | non => simp only [toPy, Option.some.injEq] at h1; subst h1; simp [PyData.eqv]
      | bl _ b => simp only [toPy, Option.some.injEq] at h1; subst h1; simp [PyData.eqv]
      | int _ i => simp only [toPy, Option.some.injEq] at h1; subst h1; simp [PyData.eqv]
      | str _ s _ => exact absurd rfl (ns s)
      | tup _ ds _ _ =>
        simp only [toPy] at h1
        cases c : toPys ds with
        | none => rw [c] at h1; cases h1
        | some ps => rw [c] at h1; cases h1; simp [PyData.eqv]
    rw [e]
    cases neg <;> exact q
/-- a text in a tuple of texts -/
theorem in_words {w : Str} (hw : w ∈ wordsL) (l : List Str) (hl : l.all PyData.strOk = true) {Q : Bool → Prop} (h : Q (decide (w ∈ l))) : ∃ p s ps, toPy (.str w) = some p ∧ toPy (.ktup (l.map .str)) = some s ∧ unList s = some ps ∧ SeqAt.shaped p = true ∧ SeqAt.shaped s = true ∧ Q (if false = true then !ps.any fun z => PyData.eqv z p else ps.any fun z => PyData.eqv z p) := by
  have e1 : ∀ l : List Str, toPys (l.map D.str) = some (l.map PyData.str) := by
    intro l
    induction l with
    | nil => simp only [List.map_nil, toPys]
    | cons a l ih => simp only [List.map_cons, toPys, toPy, ih]
  have e2 : ∀ l : List Str, l.all PyData.strOk = true → PyData.canLayAll0 (l.map PyData.str) = true ∧ PyData.depthAll (l.map PyData.str) ≤ 1 := by
    intro l
    induction l with
    | nil => intro _; simp [PyData.canLayAll0, PyData.depthAll]
    | cons a l ih =>
      intro h
      simp only [List.all_cons, Bool.and_eq_true] at h
      obtain ⟨i1, i2⟩ := ih h.2
      simp [PyData.canLayAll0, PyData.depthAll, PyData.canLay0, PyData.depth, h.1, i1]
      exact i2
  obtain ⟨g1, g2⟩ := e2 l hl
  refine ⟨.str w, .tuple (l.map .str), l.map .str, by simp only [toPy], by simp only [toPy, e1]; rfl, rfl, ?_, ?_, ?_⟩
  · unfold SeqAt.shaped; simp [PyData.canLay0, PyData.depth, words_ok w hw]
  · unfold SeqAt.shaped
    simp [PyData.canLay0, PyData.depth, g1]
    omega
  · rw [if_neg (by decide)]
    have e : ((l.map PyData.str).any fun z => PyData.eqv z (.str w)) = decide (w ∈ l) := by
      rw [List.any_map]
      refine Bool.eq_iff_iff.mpr ?_
      rw [List.any_eq_true, decide_eq_true_iff]
      constructor
      · rintro ⟨x, m, z⟩
        simp [PyData.eqv] at z
        exact z ▸ m
      · intro m
        exact ⟨w, m, by simp [PyData.eqv]⟩
    rw [e]
    exact h
/-! what is what -/
def numB : D → Bool
  | .int _ => true
  | _ => false
def belB (n : Int) : D → Bool
  | .int i => decide (0 ≤ i) && decide (i < n)
  | _ => false
def whB : D → Bool
  | .int i => decide (0 ≤ i)
  | _ => false
def lenB (m : Int) : D → Bool
  | .tup ds => decide ((ds.length : Int) = m)
  | _ => false
def labS : List Str := ["a", "b", "c", "d", "e"]
def wordB : D → Bool
  | .str s => decide (s ∈ labS)
  | _ => false
def tupD : D → Option (List D)
  | .tup l => some l
  | _ => none
/-- the formulas right within -/
def innT (wd : Bool) (w : Str) : List D → Option (List D)
  | [] => if w = "true" then some [] else none
  | [a] => if wd = true ∧ w = "name" ∧ belB 6 a = true then some [] else if w = "not" then some [a] else if w = "and" then tupD a else none
  | [a, b] => if w = "can" ∧ wordB a = true then some [b] else if wd = true ∧ (w = "least" ∨ w = "most") ∧ belB 6 a = true then some [b] else none
  | _ => none
def innB (wd : Bool) : D → Option (List D)
  | .tup (.str w :: l) => innT wd w l
  | _ => none
def isF : Nat → D → Bool
  | 0, _ => false
  | k + 1, d => match innB false d with
    | none => false
    | some l => l.all (isF k)
theorem tup_mem {L k : Nat} {ds : List D} (o : Od L (k + 1) (.tup ds)) : ∀ d ∈ ds, Od L k d := by
  cases o with
  | tup _ _ _ h => exact h
theorem tup_len {L k : Nat} {ds : List D} (o : Od L k (.tup ds)) : ds.length ≤ L := by
  cases o with
  | tup _ _ h _ => exact h
theorem inn_od {L k : Nat} {wd : Bool} {d : D} {l : List D} (o : Od L (k + 1) d) (h : innB wd d = some l) (hL : 1 ≤ L) : l.length ≤ L ∧ (∀ p ∈ l, Od L k p) ∧ sizeOf l < sizeOf d := by
  have hd : ∃ w r, d = .tup (.str w :: r) := by
    unfold innB at h
    split at h
    · exact ⟨_, _, rfl⟩
    · cases h
  obtain ⟨w, r, rfl⟩ := hd
  have h : innT wd w r = some l := h
  have ho := tup_mem o
  have one : ∀ b : D, b ∈ r → [b].length ≤ L ∧ (∀ p ∈ [b], Od L k p) := fun b m => ⟨hL, fun p mp => by
    rw [List.mem_singleton] at mp
    subst mp
    exact ho p (List.mem_cons_of_mem _ m)⟩
  rcases r with _ | ⟨a, _ | ⟨b, _ | ⟨c, r⟩⟩⟩
  · simp only [innT] at h
    split at h
    · injection h with h; subst h; exact ⟨Nat.zero_le _, (fun p m => by cases m), by simp⟩
    · cases h
  · simp only [innT] at h
    split at h
    · injection h with h; subst h; exact ⟨Nat.zero_le _, (fun p m => by cases m), by simp; omega⟩
    split at h
    · injection h with h; subst h
      exact ⟨(one a (by simp)).1, (one a (by simp)).2, by simp; omega⟩
    split at h
    · cases a <;> simp only [tupD] at h <;> first | (cases h; done) | skip
      injection h with h; subst h
      have oa := ho _ (List.mem_cons_of_mem _ List.mem_cons_self)
      cases k with
      | zero => cases oa
      | succ k => exact ⟨tup_len oa, fun p m => (tup_mem oa p m).mono (Nat.le_refl _) (by omega), by simp; omega⟩
    · cases h
  · simp only [innT] at h
    split at h
    · injection h with h; subst h
      exact ⟨(one b (by simp)).1, (one b (by simp)).2, by simp; omega⟩
    split at h
    · injection h with h; subst h
      exact ⟨(one b (by simp)).1, (one b (by simp)).2, by simp; omega⟩
    · cases h
  · cases h
/-! wide formulas: the numbers bound, each with whether it stands straight -/
abbrev Bnd := List (Int × Bool)
def flipN (bd : Bnd) : Bnd := bd.map fun p => (p.1, !p.2)
/-- what is bound within, or none where the number does not fit -/
def stepW (w : Str) (r : List D) (bd : Bnd) : Option Bnd :=
  if w = "name" then (match r with
    | .int i :: _ => if bd.lookup i = some true then some bd else none
    | _ => none)
  else if w = "not" then some (flipN bd)
  else if w = "least" ∨ w = "most" then (match r with
    | .int i :: _ => if (bd.lookup i).isSome then none else some (bd ++ [(i, true)])
    | _ => none)
  else some bd
def isW : Nat → D → Bnd → Bool
  | 0, _, _ => false
  | k + 1, d, bd => match innB true d, d with
    | some l, .tup (.str w :: r) => (match stepW w r bd with
      | none => false
      | some bd' => l.all fun p => isW k p bd')
    | _, _ => false
/-! sentences -/
def isS : Nat → D → Bool
  | 0, _ => false
  | k + 1, .tup (.str w :: l) =>
    if w = "same" ∨ w = "tied" then (match l with
      | [a, b] => whB a && whB b
      | _ => false)
    else (match l with
      | [a] => if w = "not" ∨ w = "some" then isS k a else if w = "and" then (match a with
        | .tup xs => xs.all (isS k)
        | _ => false) else false
      | _ => false)
  | _ + 1, _ => false
/-! systems -/
def arrB (n : Int) : D → Bool
  | .tup [a, .str l, b] => decide (l ∈ labS) && belB n a && belB n b
  | _ => false
def ltD : D → D → Bool
  | .tup a, .tup b => lexM a b
  | _, _ => false
def upB (as : List D) : Bool := (List.range (as.length - 1)).all fun k => ltD (as.getD k .non) (as.getD (k + 1) .non)
def sysB : D → Bool
  | .tup [.int n, .tup as] => (decide (1 ≤ n) && decide (n ≤ 12)) && (as.all (arrB n) && upB as)
  | _ => false
/-! the waiting list: blocks of one depth each -/
def Blk {α : Type} (f : α → Nat) (L K : Nat) : Nat → List α → Prop
  | 0, st => st = []
  | b + 1, st => ∃ s1 s2, st = s1 ++ s2 ∧ Blk f L K b s1 ∧ s2.length ≤ L ∧ ∀ x ∈ s2, f x + b = K
theorem Blk.len {α : Type} {f : α → Nat} {L K : Nat} : ∀ {b : Nat} {st : List α}, Blk f L K b st → st.length ≤ b * L
  | 0, st, h => by rw [h]; simp
  | b + 1, st, ⟨s1, s2, e, h1, h2, _⟩ => by
    have := Blk.len h1
    rw [e, List.length_append, Nat.add_mul]
    omega
theorem Blk.pop {α : Type} {f : α → Nat} {L K : Nat} {x : α} : ∀ {b : Nat} {st : List α}, Blk f L K b (st ++ [x]) → ∃ b', b' < b ∧ f x + b' = K ∧ Blk f L K (b' + 1) st
  | 0, st, h => by simp [Blk] at h
  | b + 1, st, ⟨s1, s2, e, h1, h2, h3⟩ => by
    rcases List.eq_nil_or_concat s2 with rfl | ⟨s2', y, e2⟩
    · rw [List.append_nil] at e
      rw [← e] at h1
      obtain ⟨b', l, e', h'⟩ := Blk.pop h1
      exact ⟨b', by omega, e', h'⟩
    · have e2 : s2 = s2' ++ [y] := by simpa using e2
      subst e2
      rw [← List.append_assoc] at e
      obtain ⟨e3, e4⟩ := List.append_inj' e rfl
      have e4 : x = y := by simpa using e4
      subst e4
      refine ⟨b, by omega, h3 x (by simp), s1, s2', e3, h1, ?_, fun z m => h3 z (by simp [m])⟩
      rw [List.length_append] at h2
      omega
theorem Blk.push {α : Type} {f : α → Nat} {L K b : Nat} {st l : List α} (h : Blk f L K b st) (hl : l.length ≤ L) (hf : ∀ x ∈ l, f x + b = K) : Blk f L K (b + 1) (st ++ l) := ⟨st, l, rfl, h, hl, hf⟩
end M19
namespace W3
open PySem PySem.Spec PyProof.Rows L2
/-! ### <= of ints and of texts -/
def oLeS : X2 := fun u w μ Q => match u, w with
  | .fz (.int i), .fz (.int j) => Q (.fz (.bl (decide (i ≤ j)))) μ
  | .fz (.str x), .fz (.str y) => Q (.fz (.bl (!decide (y.cps.toList < x.cps.toList)))) μ
  | _, _ => False
theorem qo_leS {X : Cx} : QO X (compareOp .LtE) oLeS := OpR.mono (OpR.or qo_le op_le_str) fun x y H R ⟨F, τ, μ, u, w, Q, rh, ru, rw, q, k⟩ => by
  unfold oLeS at q
  split at q
  · exact .inl ⟨F, τ, μ, _, _, Q, rh, ru, rw, q, k⟩
  · exact .inr ⟨_, _, str_of ru, str_of rw, k.ret rh (RepU.fz (.bl _)) q⟩
  · exact q.elim
end W3
namespace K19
open PySem PySem.Spec PyProof.Rows L2 W3 CB MS M19
def topS (i : Nat) : Stmt := PySem.Challenge.pw_whowins_k19_what_is_no_formula.main.body.getD i (.Pass ⟨0, 0, 0, 0⟩)
def labsK : List D := ([("a" : Str), "b", "c", "d", "e"]).map .str
def letters5 : D := .lst [.str "a", .str "b", .str "c", .str "d", .str "e"]
def letters2 : D := .lst [.str "a", .str "e"]
/-! ### what the defs do -/
def nwD (p : Nat × Bool) : D := .tup [natD p.1, .bl p.2]
def sp_is_number : XSp := fun us μ Q => ∃ d, us = [.fz d] ∧ μ = [] ∧ Od 7000 20 d ∧ Q (.fz (.bl (numB d))) []
def sp_is_below : XSp := fun us μ Q => ∃ n d, us = [.fz (.int n), .fz d] ∧ μ = [] ∧ Od 7000 20 d ∧ Q (.fz (.bl (belB n d))) []
def sp_is_tuple : XSp := fun us μ Q => ∃ d m, us = [.fz d, .fz (.int m)] ∧ μ = [] ∧ Od 7000 20 d ∧ Q (.fz (.bl (lenB m d))) []
def sp_is_word : XSp := fun us μ Q => ∃ d, us = [.fz d, .fz (.ktup labsK)] ∧ μ = [] ∧ Od 7000 20 d ∧ Q (.fz (.bl (wordB d))) []
def sp_are_below : XSp := fun us μ Q => ∃ d e : U, us = [d, e] ∧ μ = [] ∧ False ∧ Q (.fz .non) []
def sp_is_system : XSp := fun us μ Q => ∃ d, us = [.fz d] ∧ μ = [] ∧ Od 7000 20 d ∧ Q (.fz (.bl (sysB d))) []
def optT : Option (List D) → D
  | none => .non
  | some l => .tup l
def sp_inner : XSp := fun us μ Q => ∃ d wd, us = [.fz d, .fz (.bl wd)] ∧ μ = [] ∧ Od 60 20 d ∧ Q (.fz (optT (innB wd d))) []
def sp_is_formula : XSp := fun us μ Q => ∃ d, us = [.fz d] ∧ μ = [] ∧ Od 60 20 d ∧ Q (.fz (.bl (isF 20 d))) []
def sp_is_wide : XSp := fun us μ Q => ∃ d, us = [.fz d] ∧ μ = [] ∧ Od 60 20 d ∧ Q (.fz (.bl (isW 20 d []))) []
def sp_is_net : XSp := fun us μ Q => ∃ n : Nat, us = [.fz (.tup [natD n, .tup []]), .fz (.int 5)] ∧ μ = [] ∧ Q (.fz (.bl (decide (n < 6)))) []
def spx_check_system : XSpX := fun us μ Q E => ∃ d, us = [.fz d] ∧ μ = [] ∧ Od 7000 20 d ∧ (sysB d = true → Q (.fz .non) []) ∧ (sysB d = false → E "BadGame" [])
def spx_check_state : XSpX := fun us μ Q E => ∃ S d, us = [.fz (sysD S), .fz d] ∧ μ = [] ∧ Od 7000 20 d ∧ (belB S.n d = true → Q (.fz .non) []) ∧ (belB S.n d = false → E "BadPlace" [])
def spx_check_both : XSpX := fun us μ Q E => ∃ d f, us = [.fz d, .fz f] ∧ μ = [] ∧ Od 7000 20 d ∧ Od 60 20 f ∧ (sysB d && isW 20 f []) = false ∧ E "BadGame" []
def spx_classes : XSpX := fun us μ Q E => ∃ d, us = [.fz d] ∧ μ = [] ∧ Od 7000 20 d ∧ sysB d = false ∧ E "BadGame" []
def spx_alike : XSpX := fun us μ Q E => ∃ a x b y, us = [.fz a, .fz x, .fz b, .fz y] ∧ μ = [] ∧ Od 7000 20 a ∧ Od 7000 20 x ∧ Od 7000 20 b ∧ Od 7000 20 y ∧
  (sysB a = false ∧ E "BadGame" [] ∨ ∃ S, SysOk S ∧ a = sysD S ∧ b = sysD S ∧ (belB S.n x && belB S.n y) = false ∧ E "BadPlace" [])
def spx_is_likeness : XSpX := fun us μ Q E => ∃ a b p, us = [.fz a, .fz b, .fz p] ∧ μ = [] ∧ Od 7000 20 a ∧ Od 7000 20 b ∧ sysB a = true ∧ sysB b = false ∧ E "BadGame" []
def spx_where : XSpX := fun us μ Q E => ∃ d f, us = [.fz d, .fz f] ∧ μ = [] ∧ Od 7000 20 d ∧ Od 60 20 f ∧ (sysB d && isW 20 f []) = false ∧ E "BadGame" []
def spx_game_of : XSpX := spx_where
def spx_holds_at : XSpX := fun us μ Q E => ∃ S x f, us = [.fz (sysD S), .fz x, .fz f] ∧ μ = [] ∧ SysOk S ∧ Od 7000 20 x ∧ Od 60 20 f ∧ (isF 20 f = false ∧ E "BadGame" [] ∨ isF 20 f = true ∧ belB S.n x = false ∧ E "BadPlace" [])
def spx_check_sentence : XSpX := fun us μ Q E => ∃ d, us = [.fz d] ∧ μ = [] ∧ Od 60 20 d ∧ isS 20 d = false ∧ E "BadGame" []
def spx_depth_of : XSpX := spx_check_sentence
def spx_check_net : XSpX := fun us μ Q E => ∃ n : Nat, us = [.fz (.tup [natD n, .tup []])] ∧ μ = [] ∧ (n < 6 → Q (.fz .non) []) ∧ (6 ≤ n → E "BadGame" [])
def deepB : D → Bool
  | .int i => decide (0 ≤ i) && decide (i ≤ 3)
  | _ => false
def spx_apart_by : XSpX := fun us μ Q E => ∃ (n m : Nat) (d : D), us = [.fz (.tup [natD n, .tup []]), .fz (.tup [natD m, .tup []]), .fz d] ∧ μ = [] ∧ Od 7000 20 d ∧ (6 ≤ n ∧ E "BadGame" [] ∨ n < 6 ∧ m < 6 ∧ deepB d = false ∧ E "TooMuch" [])
def sp_is_whole : XSp := fun us μ Q => ∃ d, us = [.fz d] ∧ μ = [] ∧ Od 7000 20 d ∧ Q (.fz (.bl (whB d))) []
def spIS (n : Nat) : XSp := fun us μ Q => ∃ d, us = [.fz d] ∧ μ = [] ∧ Od 60 n d ∧ n ≤ 20 ∧ Q (.fz (.bl (isS n d))) []
def sp_is_sentence : XSp := spIS 20
def sp__law_pick : XSp := fun us μ Q => ∃ a b c xs ds, us = [.ptr 0, .fz (.lst ds)] ∧ μ = [boxU a b c xs] ∧ BoxOk a b c xs ∧ ds ≠ [] ∧ ds.length ≤ 1000 ∧ ∀ d a' b' c', d ∈ ds → BoxOk a' b' c' xs → Q (.fz d) [boxU a' b' c' xs]
def sp__law_whole : XSp := sp_is_number
def sp__law_says : XSp := fun us μ Q => ∃ a b : Bool, us = [.fz (.bl a), .fz (.bl b)] ∧ μ = [] ∧ Q (.fz (.bl (decide (a = b)))) []
def sp__law_system : XSp := fun us μ Q => ∃ a b c xs most, us = [.ptr 0, .fz (natD most), .fz letters2] ∧ μ = [boxU a b c xs] ∧ BoxOk a b c xs ∧ 1 ≤ most ∧ most ≤ 5 ∧ ∀ S a' b' c', SysOk S → S.n ≤ most → BoxOk a' b' c' xs → Q (.fz (sysD S)) [boxU a' b' c' xs]
def spLF (n : Nat) : XSp := fun us μ Q => ∃ d, us = [.fz d, .fz letters5] ∧ μ = [] ∧ Od 60 n d ∧ n ≤ 20 ∧ Q (.fz (.bl (isF n d))) []
def sp__law_is_formula : XSp := spLF 20
def spForm (n : Nat) : XSp := fun us μ Q => ∃ (a b c : Int) (xs : List Int) (d : Nat) (names : List (Nat × Bool)) (s r : Bool), us = [.ptr 0, .fz (natD d), .fz letters5, .fz (.lst (names.map nwD)), .fz (.bl s), .fz (.bl r)] ∧ μ = [boxU a b c xs] ∧ BoxOk a b c xs ∧ d < n ∧ names.length + d ≤ 10 ∧ ∀ f a' b' c', Od 50 (2 * d + 2) f → BoxOk a' b' c' xs → Q (.fz f) [boxU a' b' c' xs]
def sp__law_formula : XSp := spForm 7
def spLS (n : Nat) : XSp := fun us μ Q => ∃ d, us = [.fz d] ∧ μ = [] ∧ Od 60 n d ∧ n ≤ 20 ∧ Q (.fz (.bl (isS n d))) []
def sp__law_is_sentence : XSp := spLS 20
def spSen (n : Nat) : XSp := fun us μ Q => ∃ a b c xs d m, us = [.ptr 0, .fz (natD d), .fz (natD m)] ∧ μ = [boxU a b c xs] ∧ BoxOk a b c xs ∧ d < n ∧ m + d ≤ 20 ∧ ∀ s a' b' c', Od 50 (2 * d + 2) s → BoxOk a' b' c' xs → Q (.fz s) [boxU a' b' c' xs]
def sp__law_sentence : XSp := spSen 6
def spOdd (n : Nat) : XSp := fun us μ Q => ∃ a b c xs d, us = [.ptr 0, .fz (natD d)] ∧ μ = [boxU a b c xs] ∧ BoxOk a b c xs ∧ d < n ∧ ∀ v a' b' c', Od 50 (d + 1) v → BoxOk a' b' c' xs → Q (.fz v) [boxU a' b' c' xs]
def sp__law_odd : XSp := spOdd 4
def spTurn (n : Nat) : XSp := fun us μ Q => ∃ a b c xs v d L k, us = [.ptr 0, .fz v, .fz (natD d)] ∧ μ = [boxU a b c xs] ∧ BoxOk a b c xs ∧ d < n ∧ Od L k v ∧ 50 ≤ L ∧ L ≤ 6500 ∧ k ≤ 30 ∧ ∀ v' a' b' c', Od (L + 1) (k + 3) v' → BoxOk a' b' c' xs → Q (.fz v') [boxU a' b' c' xs]
def sp__law_turned : XSp := spTurn 7
def wayB (s : Bool) (p : Nat × Bool) : Int × Bool := ((p.1 : Int), p.2 == s)
def wayD (p : Int × Bool) : D := .tup [.int p.1, .bl p.2]
/-- what is bound in the law's own looking: each number once -/
def spLW (n : Nat) : XSp := fun us μ Q => ∃ (d : D) (lb : List (Int × Bool)) (s : Bool), us = [.fz d, .fz letters5, .fz (.lst (lb.map wayD)), .fz (.bl s)] ∧ μ = [] ∧ Od 60 n d ∧ n ≤ 20 ∧ (lb.map (·.1)).Nodup ∧ (∀ p ∈ lb, 0 ≤ p.1 ∧ p.1 < 6) ∧ lb.length + n ≤ 60 ∧ Q (.fz (.bl (isW n d (lb.map fun p => (p.1, p.2 == s))))) []
def sp__law_is_wide : XSp := spLW 20
def sp__law_is_system : XSp := sp_is_system
def sp_law : XSp := fun us μ Q => ∃ (ns : List Int) (P : Addr), us = [.fz (.slst (ns.map .int))] ∧ μ = [.tab 0 P "law.<locals>.<lambda>"] ∧ ns.length ≤ 63 ∧ Q (.fz (.bl true)) μ
abbrev bltNames : List Str := ["abs", "all", "bool", "dict", "int", "isinstance", "len", "max", "range", "str", "tuple"]
abbrev rets__law_refusal : List (Str × Str) := [("BadGame", "BadGame"), ("BadKind", "BadKind"), ("BadPlace", "BadPlace"), ("TooMuch", "TooMuch")]
abbrev fin__law_refusal : Str := ""
abbrev s_is_number : Stmt := topS 2
abbrev N_is_number : List Str := ["x"]
theorem sc_is_number : FnScope N_is_number ["x"] (defScope s_is_number) := ⟨rfl, rfl, rfl, by decide +kernel, rfl, by decide +kernel, by decide +kernel⟩
def t_is_number : XS :=
  (wRet (wAndV (wCall (c2 (oIsi .int)) (wCons (wVar 0) (wCons (wC (.ty "int")) wNil))) (wNotV (wCall (c2 (oIsi .bool)) (wCons (wVar 0) (wCons (wC (.ty "bool")) wNil))))))
theorem q_is_number {P : Program} {w : World} {K : PySem.W.Frag} {mg : Str → Option Value} {base : Heap} (B : Blt mg bltNames) {f : Addr} {cdv : Value} {A : Around} {outer : List Env} {s : Shared} {H : Hp} {E : XK} (hr : Room 0 (A.deeper (envOfC "is_number" (defScope s_is_number) s.heap.objs.size f cdv))) :
    QSs (cxOf CX0 P w K mg base N_is_number "is_number" (defScope s_is_number) f cdv A outer s H E).nox (defBody s_is_number) (t_is_number) :=
  (qss_one (qs_ret (qe_and (qe_callB (qc_isi .int) boot_isinstance (B "isinstance" (by decide)) (qa_cons (qe_var (pv 0)) (qa_cons (qe_ty (B "int" (by decide)) boot_int) qa_nil))) (qe_one (qe_not (qe_callB (qc_isi .bool) boot_isinstance (B "isinstance" (by decide)) (qa_cons (qe_var (pv 0)) (qa_cons (qe_ty (B "bool" (by decide)) boot_bool) qa_nil))))))))
abbrev s_is_below : Stmt := topS 3
abbrev N_is_below : List Str := ["n", "x"]
theorem sc_is_below : FnScope N_is_below ["n", "x"] (defScope s_is_below) := ⟨rfl, rfl, rfl, by decide +kernel, rfl, by decide +kernel, by decide +kernel⟩
def t_is_below : XS :=
  (wRet (wAndV (wFn sp_is_number (wCons (wVar 1) wNil)) (wChain (oLe) (oLt) (wC (.int 0)) (wVar 1) (wVar 0))))
theorem q_is_below {P : Program} {w : World} {K : PySem.W.Frag} {mg : Str → Option Value} {base : Heap} (B : Blt mg bltNames) (D_is_number : DefOk P w K mg base 1 "is_number" ["x"] sp_is_number) {f : Addr} {cdv : Value} {A : Around} {outer : List Env} {s : Shared} {H : Hp} {E : XK} (hr : Room 1 (A.deeper (envOfC "is_below" (defScope s_is_below) s.heap.objs.size f cdv))) :
    QSs (cxOf CX0 P w K mg base N_is_below "is_below" (defScope s_is_below) f cdv A outer s H E).nox (defBody s_is_below) (t_is_below) :=
  (qss_one (qs_ret (qe_and (qe_def D_is_number (hr.mono (by decide)) (qa_cons (qe_var (pv 1)) qa_nil)) (qe_one (qe_chain (qo_le) (qo_lt) qe_int (qe_var (pv 1)) (qe_var (pv 0)))))))
abbrev s_is_tuple : Stmt := topS 4
abbrev N_is_tuple : List Str := ["x", "many"]
theorem sc_is_tuple : FnScope N_is_tuple ["x", "many"] (defScope s_is_tuple) := ⟨rfl, rfl, rfl, by decide +kernel, rfl, by decide +kernel, by decide +kernel⟩
def t_is_tuple : XS :=
  (wRet (wAndV (wCall (c2 (oIsi .tuple)) (wCons (wVar 0) (wCons (wC (.ty "tuple")) wNil))) (w2 (oEq false) (wCall (c1 oLen) (wCons (wVar 0) wNil)) (wVar 1))))
theorem q_is_tuple {P : Program} {w : World} {K : PySem.W.Frag} {mg : Str → Option Value} {base : Heap} (B : Blt mg bltNames) {f : Addr} {cdv : Value} {A : Around} {outer : List Env} {s : Shared} {H : Hp} {E : XK} (hr : Room 0 (A.deeper (envOfC "is_tuple" (defScope s_is_tuple) s.heap.objs.size f cdv))) :
    QSs (cxOf CX0 P w K mg base N_is_tuple "is_tuple" (defScope s_is_tuple) f cdv A outer s H E).nox (defBody s_is_tuple) (t_is_tuple) :=
  (qss_one (qs_ret (qe_and (qe_callB (qc_isi .tuple) boot_isinstance (B "isinstance" (by decide)) (qa_cons (qe_var (pv 0)) (qa_cons (qe_ty (B "tuple" (by decide)) boot_tuple) qa_nil))) (qe_one (qe_cmp (qo_eq hr.u64) (qe_callB (qc_len) PySem.boot_len (B "len" (by decide)) (qa_cons (qe_var (pv 0)) qa_nil)) (qe_var (pv 1)) (nomark _))))))
abbrev s_is_word : Stmt := topS 5
abbrev N_is_word : List Str := ["x", "words"]
theorem sc_is_word : FnScope N_is_word ["x", "words"] (defScope s_is_word) := ⟨rfl, rfl, rfl, by decide +kernel, rfl, by decide +kernel, by decide +kernel⟩
def t_is_word : XS :=
  (wRet (wAndV (wCall (c2 (oIsi .str)) (wCons (wVar 0) (wCons (wC (.ty "str")) wNil))) (w2 (oIn false) (wVar 0) (wVar 1))))
theorem q_is_word {P : Program} {w : World} {K : PySem.W.Frag} {mg : Str → Option Value} {base : Heap} (B : Blt mg bltNames) {f : Addr} {cdv : Value} {A : Around} {outer : List Env} {s : Shared} {H : Hp} {E : XK} (hr : Room 0 (A.deeper (envOfC "is_word" (defScope s_is_word) s.heap.objs.size f cdv))) :
    QSs (cxOf CX0 P w K mg base N_is_word "is_word" (defScope s_is_word) f cdv A outer s H E).nox (defBody s_is_word) (t_is_word) :=
  (qss_one (qs_ret (qe_and (qe_callB (qc_isi .str) boot_isinstance (B "isinstance" (by decide)) (qa_cons (qe_var (pv 0)) (qa_cons (qe_ty (B "str" (by decide)) boot_str) qa_nil))) (qe_one (qe_cmp (qo_in hr.u66) (qe_var (pv 0)) (qe_var (pv 1)) (by rfl))))))
abbrev s_are_below : Stmt := topS 6
abbrev N_are_below : List Str := ["n", "x", "one"]
theorem sc_are_below : FnScope N_are_below ["n", "x"] (defScope s_are_below) := ⟨rfl, rfl, rfl, by decide +kernel, rfl, by decide +kernel, by decide +kernel⟩
def t_are_below : XS :=
  (wRet (wAndV (wCall (c2 (oIsi .tuple)) (wCons (wVar 1) (wCons (wC (.ty "tuple")) wNil))) (wCall (c1 oAll) (wCons (wLc false (xSeq (wVar 1)) (gSet 2) wYes (wFn sp_is_below (wCons (wVar 0) (wCons (wVar 2) wNil))) [2]) wNil))))
theorem q_are_below {P : Program} {w : World} {K : PySem.W.Frag} {mg : Str → Option Value} {base : Heap} (B : Blt mg bltNames) (D_is_below : DefOk P w K mg base 2 "is_below" ["n", "x"] sp_is_below) {f : Addr} {cdv : Value} {A : Around} {outer : List Env} {s : Shared} {H : Hp} {E : XK} (hr : Room 2 (A.deeper (envOfC "are_below" (defScope s_are_below) s.heap.objs.size f cdv))) :
    QSs (cxOf CX0 P w K mg base N_are_below "are_below" (defScope s_are_below) f cdv A outer s H E).nox (defBody s_are_below) (t_are_below) :=
  (qss_one (qs_ret (qe_and (qe_callB (qc_isi .tuple) boot_isinstance (B "isinstance" (by decide)) (qa_cons (qe_var (pv 1)) (qa_cons (qe_ty (B "tuple" (by decide)) boot_tuple) qa_nil))) (qe_one (qe_callB (qc_all rfl) boot_all (B "all" (by decide)) (qa_cons (qe_lc (own := [("one", 2)]) false rfl sc_are_below.nd (qi_seq (qe_var (pv 1))) (blkOk_by (N := N_are_below) (sc := defScope s_are_below) (by decide +kernel)) (fun _ _ _ _ _ => (qgw_name (pg_name (i := 2) sc_are_below.nd rfl (.inl rfl)) (by decide))) (fun _ _ _ _ _ => qts_nil) (fun _ _ _ _ _ => (qe_def D_is_below (hr.mono (by decide)) (qa_cons (qe_var (pv 0)) (qa_cons (qe_var (pv 2)) qa_nil))))) qa_nil))))))
abbrev s_is_system : Stmt := topS 7
abbrev N_is_system : List Str := ["x", "one", "k"]
theorem sc_is_system : FnScope N_is_system ["x"] (defScope s_is_system) := ⟨rfl, rfl, rfl, by decide +kernel, rfl, by decide +kernel, by decide +kernel⟩
def t_is_system : XS :=
  (wSeq (wIfS (wOr (wNot (wTru (wFn sp_is_tuple (wCons (wVar 0) (wCons (wC (.int 2)) wNil))))) (wOr (wNot (wTru (wFn sp_is_number (wCons (w2 oIx (wVar 0) (wC (.int 0))) wNil)))) (wOr (wNot (wB (wChain (oLe) (oLe) (wC (.int 1)) (w2 oIx (wVar 0) (wC (.int 0))) (wC (.int 12))))) (wNot (wTru (wCall (c2 (oIsi .tuple)) (wCons (w2 oIx (wVar 0) (wC (.int 1))) (wCons (wC (.ty "tuple")) wNil)))))))) (wRet (wC (.bl false))) wNext)
  (wSeq (wFor (xSeq (w2 oIx (wVar 0) (wC (.int 1)))) (gSet 1) (wSeq (wIfS (wOr (wNot (wTru (wFn sp_is_tuple (wCons (wVar 1) (wCons (wC (.int 3)) wNil))))) (wNot (wTru (wFn sp_is_word (wCons (w2 oIx (wVar 1) (wC (.int 1))) (wCons (wC (.ktup ((["a", "b", "c", "d", "e"] : List Str).map .str))) wNil)))))) (wRet (wC (.bl false))) wNext)
  (wIfS (wOr (wNot (wTru (wFn sp_is_below (wCons (w2 oIx (wVar 0) (wC (.int 0))) (wCons (w2 oIx (wVar 1) (wC (.int 0))) wNil))))) (wNot (wTru (wFn sp_is_below (wCons (w2 oIx (wVar 0) (wC (.int 0))) (wCons (w2 oIx (wVar 1) (wC (.int 2))) wNil)))))) (wRet (wC (.bl false))) wNext)))
  (wRet (wCall (c1 oAll) (wCons (wLc false (xRng1 (wCons (w2 (oSub) (wCall (c1 oLen) (wCons (w2 oIx (wVar 0) (wC (.int 1))) wNil)) (wC (.int 1))) wNil)) (gSet 2) wYes (w2 (oLtM) (w2 oIx (w2 oIx (wVar 0) (wC (.int 1))) (wVar 2)) (w2 oIx (w2 oIx (wVar 0) (wC (.int 1))) (w2 (oAdd false) (wVar 2) (wC (.int 1))))) [2]) wNil)))))
theorem q_is_system {P : Program} {w : World} {K : PySem.W.Frag} {mg : Str → Option Value} {base : Heap} (B : Blt mg bltNames) (D_is_tuple : DefOk P w K mg base 1 "is_tuple" ["x", "many"] sp_is_tuple) (D_is_number : DefOk P w K mg base 1 "is_number" ["x"] sp_is_number) (D_is_word : DefOk P w K mg base 1 "is_word" ["x", "words"] sp_is_word) (D_is_below : DefOk P w K mg base 2 "is_below" ["n", "x"] sp_is_below) (C_LABELS : GStrs K mg "LABELS" ["a", "b", "c", "d", "e"]) {f : Addr} {cdv : Value} {A : Around} {outer : List Env} {s : Shared} {H : Hp} {E : XK} (hr : Room 2 (A.deeper (envOfC "is_system" (defScope s_is_system) s.heap.objs.size f cdv))) :
    QSs (cxOf CX0 P w K mg base N_is_system "is_system" (defScope s_is_system) f cdv A outer s H E).nox (defBody s_is_system) (t_is_system) :=
  (qss_cons (qs_if (qt_w (qw_or (qt_not (qt_tru (qe_def D_is_tuple (hr.mono (by decide)) (qa_cons (qe_var (pv 0)) (qa_cons qe_int qa_nil))))) (qw_or (qt_not (qt_tru (qe_def D_is_number (hr.mono (by decide)) (qa_cons (qe_ix hr.u1 (qe_var (pv 0)) qe_int (fun _ _ => rfl)) qa_nil)))) (qw_or (qt_not (qt_chain (qo_le) (qo_le) qe_int (qe_ix hr.u1 (qe_var (pv 0)) qe_int (fun _ _ => rfl)) qe_int)) (qw_or1 (qt_not (qt_tru (qe_callB (qc_isi .tuple) boot_isinstance (B "isinstance" (by decide)) (qa_cons (qe_ix hr.u1 (qe_var (pv 0)) qe_int (fun _ _ => rfl)) (qa_cons (qe_ty (B "tuple" (by decide)) boot_tuple) qa_nil)))))))))) (qss_one (qs_ret qe_bl)) qss_nil)
  (qss_cons (qs_for PassesOwn.never rfl (qi_seq (qe_ix hr.u1 (qe_var (pv 0)) qe_int (fun _ _ => rfl))) (qg_name (pg_name (i := 1) sc_is_system.nd rfl (.inl rfl))) (qss_cons (qs_if (qt_w (qw_or (qt_not (qt_tru (qe_def D_is_tuple (hr.mono (by decide)) (qa_cons (qe_var (pv 1)) (qa_cons qe_int qa_nil))))) (qw_or1 (qt_not (qt_tru (qe_def D_is_word (hr.mono (by decide)) (qa_cons (qe_ix hr.u1 (qe_var (pv 1)) qe_int (fun _ _ => rfl)) (qa_cons (qe_globT C_LABELS) qa_nil)))))))) (qss_one (qs_ret qe_bl)) qss_nil)
  (qss_one (qs_if (qt_w (qw_or (qt_not (qt_tru (qe_def D_is_below (hr.mono (by decide)) (qa_cons (qe_ix hr.u1 (qe_var (pv 0)) qe_int (fun _ _ => rfl)) (qa_cons (qe_ix hr.u1 (qe_var (pv 1)) qe_int (fun _ _ => rfl)) qa_nil))))) (qw_or1 (qt_not (qt_tru (qe_def D_is_below (hr.mono (by decide)) (qa_cons (qe_ix hr.u1 (qe_var (pv 0)) qe_int (fun _ _ => rfl)) (qa_cons (qe_ix hr.u1 (qe_var (pv 1)) qe_int (fun _ _ => rfl)) qa_nil)))))))) (qss_one (qs_ret qe_bl)) qss_nil))))
  (qss_one (qs_ret (qe_callB (qc_all rfl) boot_all (B "all" (by decide)) (qa_cons (qe_lc (own := [("k", 2)]) false rfl sc_is_system.nd (qi_rng1 (B "range" (by decide)) (qa_cons (qe_op (qo_sub) (qe_callB (qc_len) PySem.boot_len (B "len" (by decide)) (qa_cons (qe_ix hr.u1 (qe_var (pv 0)) qe_int (fun _ _ => rfl)) qa_nil)) qe_int) qa_nil)) (blkOk_by (N := N_is_system) (sc := defScope s_is_system) (by decide +kernel)) (fun _ _ _ _ _ => (qgw_name (pg_name (i := 2) sc_is_system.nd rfl (.inl rfl)) (by decide))) (fun _ _ _ _ _ => qts_nil) (fun _ _ _ _ _ => (qe_cmp (qo_ltM (Nat.lt_of_succ_lt hr.u1)) (qe_ix hr.u1 (qe_ix hr.u1 (qe_var (pv 0)) qe_int (fun _ _ => rfl)) (qe_var (pv 2)) (fun _ _ => rfl)) (qe_ix hr.u1 (qe_ix hr.u1 (qe_var (pv 0)) qe_int (fun _ _ => rfl)) (qe_op (qo_add false) (qe_var (pv 2)) qe_int) (fun _ _ => rfl)) (nomark _)))) qa_nil))))))
abbrev s_inner : Stmt := topS 8
abbrev N_inner : List Str := ["x", "wide"]
theorem sc_inner : FnScope N_inner ["x", "wide"] (defScope s_inner) := ⟨rfl, rfl, rfl, by decide +kernel, rfl, by decide +kernel, by decide +kernel⟩
def t_inner : XS :=
  (wSeq (wIfS (wOr (wNot (wTru (wCall (c2 (oIsi .tuple)) (wCons (wVar 0) (wCons (wC (.ty "tuple")) wNil))))) (wOr (wB (w2 (oEq false) (wCall (c1 oLen) (wCons (wVar 0) wNil)) (wC (.int 0)))) (wNot (wTru (wCall (c2 (oIsi .str)) (wCons (w2 oIx (wVar 0) (wC (.int 0))) (wCons (wC (.ty "str")) wNil))))))) (wRet (wC .non)) wNext)
  (wSeq (wIfS (wOr (wAnd (wB (w2 (oEq false) (w2 oIx (wVar 0) (wC (.int 0))) (wC (.str "true")))) (wB (w2 (oEq false) (wCall (c1 oLen) (wCons (wVar 0) wNil)) (wC (.int 1))))) (wAnd (wTru (wVar 1)) (wAnd (wB (w2 (oEq false) (w2 oIx (wVar 0) (wC (.int 0))) (wC (.str "name")))) (wAnd (wB (w2 (oEq false) (wCall (c1 oLen) (wCons (wVar 0) wNil)) (wC (.int 2)))) (wTru (wFn sp_is_below (wCons (wC (.int 6)) (wCons (w2 oIx (wVar 0) (wC (.int 1))) wNil)))))))) (wRet (wTup wNil)) wNext)
  (wSeq (wIfS (wAnd (wB (w2 (oEq false) (w2 oIx (wVar 0) (wC (.int 0))) (wC (.str "not")))) (wB (w2 (oEq false) (wCall (c1 oLen) (wCons (wVar 0) wNil)) (wC (.int 2))))) (wRet (wSl false (wVar 0) (wPart (wC (.int 1))) wNoPart)) wNext)
  (wSeq (wIfS (wAnd (wB (w2 (oEq false) (w2 oIx (wVar 0) (wC (.int 0))) (wC (.str "and")))) (wAnd (wB (w2 (oEq false) (wCall (c1 oLen) (wCons (wVar 0) wNil)) (wC (.int 2)))) (wTru (wCall (c2 (oIsi .tuple)) (wCons (w2 oIx (wVar 0) (wC (.int 1))) (wCons (wC (.ty "tuple")) wNil)))))) (wRet (w2 oIx (wVar 0) (wC (.int 1)))) wNext)
  (wSeq (wIfS (wAnd (wB (w2 (oEq false) (w2 oIx (wVar 0) (wC (.int 0))) (wC (.str "can")))) (wAnd (wB (w2 (oEq false) (wCall (c1 oLen) (wCons (wVar 0) wNil)) (wC (.int 3)))) (wTru (wFn sp_is_word (wCons (w2 oIx (wVar 0) (wC (.int 1))) (wCons (wC (.ktup ((["a", "b", "c", "d", "e"] : List Str).map .str))) wNil)))))) (wRet (wSl false (wVar 0) (wPart (wC (.int 2))) wNoPart)) wNext)
  (wSeq (wIfS (wAnd (wTru (wVar 1)) (wAnd (wB (w2 (oIn false) (w2 oIx (wVar 0) (wC (.int 0))) (wTup (wCons (wC (.str "least")) (wCons (wC (.str "most")) wNil))))) (wAnd (wB (w2 (oEq false) (wCall (c1 oLen) (wCons (wVar 0) wNil)) (wC (.int 3)))) (wTru (wFn sp_is_below (wCons (wC (.int 6)) (wCons (w2 oIx (wVar 0) (wC (.int 1))) wNil))))))) (wRet (wSl false (wVar 0) (wPart (wC (.int 2))) wNoPart)) wNext)
  (wRet (wC .non))))))))
theorem q_inner {P : Program} {w : World} {K : PySem.W.Frag} {mg : Str → Option Value} {base : Heap} (B : Blt mg bltNames) (D_is_below : DefOk P w K mg base 2 "is_below" ["n", "x"] sp_is_below) (D_is_word : DefOk P w K mg base 1 "is_word" ["x", "words"] sp_is_word) (C_LABELS : GStrs K mg "LABELS" ["a", "b", "c", "d", "e"]) {f : Addr} {cdv : Value} {A : Around} {outer : List Env} {s : Shared} {H : Hp} {E : XK} (hr : Room 2 (A.deeper (envOfC "inner" (defScope s_inner) s.heap.objs.size f cdv))) :
    QSs (cxOf CX0 P w K mg base N_inner "inner" (defScope s_inner) f cdv A outer s H E).nox (defBody s_inner) (t_inner) :=
  (qss_cons (qs_if (qt_w (qw_or (qt_not (qt_tru (qe_callB (qc_isi .tuple) boot_isinstance (B "isinstance" (by decide)) (qa_cons (qe_var (pv 0)) (qa_cons (qe_ty (B "tuple" (by decide)) boot_tuple) qa_nil))))) (qw_or (qt_cmp (qo_eq hr.u64) (qe_callB (qc_len) PySem.boot_len (B "len" (by decide)) (qa_cons (qe_var (pv 0)) qa_nil)) qe_int (nomark _)) (qw_or1 (qt_not (qt_tru (qe_callB (qc_isi .str) boot_isinstance (B "isinstance" (by decide)) (qa_cons (qe_ix hr.u1 (qe_var (pv 0)) qe_int (fun _ _ => rfl)) (qa_cons (qe_ty (B "str" (by decide)) boot_str) qa_nil))))))))) (qss_one (qs_ret qe_non)) qss_nil)
  (qss_cons (qs_if (qt_w (qw_or (qt_w (qw_and (qt_cmp (qo_eq hr.u64) (qe_ix hr.u1 (qe_var (pv 0)) qe_int (fun _ _ => rfl)) qe_str (nomark _)) (qw_and1 (qt_cmp (qo_eq hr.u64) (qe_callB (qc_len) PySem.boot_len (B "len" (by decide)) (qa_cons (qe_var (pv 0)) qa_nil)) qe_int (nomark _))))) (qw_or1 (qt_w (qw_and (qt_tru (qe_var (pv 1))) (qw_and (qt_cmp (qo_eq hr.u64) (qe_ix hr.u1 (qe_var (pv 0)) qe_int (fun _ _ => rfl)) qe_str (nomark _)) (qw_and (qt_cmp (qo_eq hr.u64) (qe_callB (qc_len) PySem.boot_len (B "len" (by decide)) (qa_cons (qe_var (pv 0)) qa_nil)) qe_int (nomark _)) (qw_and1 (qt_tru (qe_def D_is_below (hr.mono (by decide)) (qa_cons qe_int (qa_cons (qe_ix hr.u1 (qe_var (pv 0)) qe_int (fun _ _ => rfl)) qa_nil)))))))))))) (qss_one (qs_ret (qe_tup qa_nil))) qss_nil)
  (qss_cons (qs_if (qt_w (qw_and (qt_cmp (qo_eq hr.u64) (qe_ix hr.u1 (qe_var (pv 0)) qe_int (fun _ _ => rfl)) qe_str (nomark _)) (qw_and1 (qt_cmp (qo_eq hr.u64) (qe_callB (qc_len) PySem.boot_len (B "len" (by decide)) (qa_cons (qe_var (pv 0)) qa_nil)) qe_int (nomark _))))) (qss_one (qs_ret (qe_slice false (qe_var (pv 0)) (qp_some qe_int) qp_none))) qss_nil)
  (qss_cons (qs_if (qt_w (qw_and (qt_cmp (qo_eq hr.u64) (qe_ix hr.u1 (qe_var (pv 0)) qe_int (fun _ _ => rfl)) qe_str (nomark _)) (qw_and (qt_cmp (qo_eq hr.u64) (qe_callB (qc_len) PySem.boot_len (B "len" (by decide)) (qa_cons (qe_var (pv 0)) qa_nil)) qe_int (nomark _)) (qw_and1 (qt_tru (qe_callB (qc_isi .tuple) boot_isinstance (B "isinstance" (by decide)) (qa_cons (qe_ix hr.u1 (qe_var (pv 0)) qe_int (fun _ _ => rfl)) (qa_cons (qe_ty (B "tuple" (by decide)) boot_tuple) qa_nil)))))))) (qss_one (qs_ret (qe_ix hr.u1 (qe_var (pv 0)) qe_int (fun _ _ => rfl)))) qss_nil)
  (qss_cons (qs_if (qt_w (qw_and (qt_cmp (qo_eq hr.u64) (qe_ix hr.u1 (qe_var (pv 0)) qe_int (fun _ _ => rfl)) qe_str (nomark _)) (qw_and (qt_cmp (qo_eq hr.u64) (qe_callB (qc_len) PySem.boot_len (B "len" (by decide)) (qa_cons (qe_var (pv 0)) qa_nil)) qe_int (nomark _)) (qw_and1 (qt_tru (qe_def D_is_word (hr.mono (by decide)) (qa_cons (qe_ix hr.u1 (qe_var (pv 0)) qe_int (fun _ _ => rfl)) (qa_cons (qe_globT C_LABELS) qa_nil)))))))) (qss_one (qs_ret (qe_slice false (qe_var (pv 0)) (qp_some qe_int) qp_none))) qss_nil)
  (qss_cons (qs_if (qt_w (qw_and (qt_tru (qe_var (pv 1))) (qw_and (qt_cmp (qo_in hr.u66) (qe_ix hr.u1 (qe_var (pv 0)) qe_int (fun _ _ => rfl)) (qe_tup (qa_cons qe_str (qa_cons qe_str qa_nil))) (by rfl)) (qw_and (qt_cmp (qo_eq hr.u64) (qe_callB (qc_len) PySem.boot_len (B "len" (by decide)) (qa_cons (qe_var (pv 0)) qa_nil)) qe_int (nomark _)) (qw_and1 (qt_tru (qe_def D_is_below (hr.mono (by decide)) (qa_cons qe_int (qa_cons (qe_ix hr.u1 (qe_var (pv 0)) qe_int (fun _ _ => rfl)) qa_nil))))))))) (qss_one (qs_ret (qe_slice false (qe_var (pv 0)) (qp_some qe_int) qp_none))) qss_nil)
  (qss_one (qs_ret qe_non))))))))
abbrev s_is_formula : Stmt := topS 9
abbrev N_is_formula : List Str := ["x", "waiting", "parts"]
theorem sc_is_formula : FnScope N_is_formula ["x"] (defScope s_is_formula) := ⟨rfl, rfl, rfl, by decide +kernel, rfl, by decide +kernel, by decide +kernel⟩
def t_is_formula : XS :=
  (wSeq (wSet 1 (wLst true (wCons (wVar 0) wNil)))
  (wSeq (wWhile (wTru (wVar 1)) (wSeq (wSet 2 (wFn sp_inner (wCons (wMeth0 oPop (wVar 1)) (wCons (wC (.bl false)) wNil))))
  (wSeq (wIfS (wB (w2 (oIs false) (wVar 2) (wC .non))) (wRet (wC (.bl false))) wNext)
  (wDrop (wMeth oExtendT (wVar 1) (wCons (wVar 2) wNil))))))
  (wRet (wC (.bl true)))))
theorem q_is_formula {P : Program} {w : World} {K : PySem.W.Frag} {mg : Str → Option Value} {base : Heap} (B : Blt mg bltNames) (D_inner : DefOk P w K mg base 3 "inner" ["x", "wide"] sp_inner) {f : Addr} {cdv : Value} {A : Around} {outer : List Env} {s : Shared} {H : Hp} {E : XK} (hr : Room 3 (A.deeper (envOfC "is_formula" (defScope s_is_formula) s.heap.objs.size f cdv))) :
    QSs (cxOf CX0 P w K mg base N_is_formula "is_formula" (defScope s_is_formula) f cdv A outer s H E).nox (defBody s_is_formula) (t_is_formula) :=
  (qss_cons (qs_set (fun h => ps_set (i := 1) sc_is_formula.nd rfl (.inl rfl) h) (qe_lst true (qa_cons (qe_var (pv 0)) qa_nil)))
  (qss_cons (qs_while PassesOwn.never (qt_tru (qe_var (pv 1))) (qss_cons (qs_set (fun h => ps_set (i := 2) sc_is_formula.nd rfl (.inl rfl) h) (qe_def D_inner (hr.mono (by decide)) (qa_cons (qe_meth0 PySem.F.slot_list_pop PySem.F.type_list_pop qm_pop (qe_var (pv 1))) (qa_cons qe_bl qa_nil))))
  (qss_cons (qs_if (qt_cmp (qo_is) (qe_var (pv 2)) qe_non (nomark _)) (qss_one (qs_ret qe_bl)) qss_nil)
  (qss_one (qs_expr (qe_meth PySem.F.slot_list_extend PySem.F.type_list_extend qm_extendT (qe_var (pv 1)) (qa_cons (qe_var (pv 2)) qa_nil)))))))
  (qss_one (qs_ret qe_bl))))
abbrev s_is_wide : Stmt := topS 10
abbrev N_is_wide : List Str := ["x", "waiting", "one", "bound", "parts", "part", "k", "even"]
theorem sc_is_wide : FnScope N_is_wide ["x"] (defScope s_is_wide) := ⟨rfl, rfl, rfl, by decide +kernel, rfl, by decide +kernel, by decide +kernel⟩
def t_is_wide : XS :=
  (wSeq (wSet 1 (wLst true (wCons (wTup (wCons (wVar 0) (wCons (wTupP wNil) wNil))) wNil)))
  (wSeq (wWhile (wTru (wVar 1)) (wSeq (wAsg (wMeth0 oPop (wVar 1)) (gTupX 2 (gConsX (gSet 2) (gConsX (gSet 3) gNilX))))
  (wSeq (wSet 4 (wFn sp_inner (wCons (wVar 2) (wCons (wC (.bl true)) wNil))))
  (wSeq (wIfS (wB (w2 (oIsM false) (wVar 4) (wC .non))) (wRet (wC (.bl false))) wNext)
  (wSeq (wIfS (wAnd (wB (w2 (oEq false) (w2 oIx (wVar 2) (wC (.int 0))) (wC (.str "name")))) (wB (w2 (oIsM true) (wGet (wCall (c1 (oDictP false)) (wCons (wVar 3) wNil)) (w2 oIx (wVar 2) (wC (.int 1)))) (wC (.bl true))))) (wRet (wC (.bl false))) wNext)
  (wSeq (wIfS (wB (w2 (oEq false) (w2 oIx (wVar 2) (wC (.int 0))) (wC (.str "not")))) (wSet 3 (wCall (c1 oTupleP) (wCons (wLc false (xSeq (wK (wVar 3))) (gTupX 2 (gConsX (gSet 6) (gConsX (gSet 7) gNilX))) wYes (wTup (wCons (wVar 6) (wCons (wNotV (wVar 7)) wNil))) [6, 7]) wNil))) wNext)
  (wSeq (wIfS (wB (w2 (oIn false) (w2 oIx (wVar 2) (wC (.int 0))) (wTup (wCons (wC (.str "least")) (wCons (wC (.str "most")) wNil))))) (wSeq (wIfS (wB (w2 (oIn false) (w2 oIx (wVar 2) (wC (.int 1))) (wCall (c1 (oDictP false)) (wCons (wVar 3) wNil)))) (wRet (wC (.bl false))) wNext)
  (wSet 3 (w2 oAddP (wVar 3) (wTupP (wCons (wTup (wCons (w2 oIx (wVar 2) (wC (.int 1))) (wCons (wC (.bl true)) wNil))) wNil))))) wNext)
  (wDrop (wMeth oExtend (wVar 1) (wCons (wLc false (xSeq (wVar 4)) (gSet 5) wYes (wTup (wCons (wVar 5) (wCons (wVar 3) wNil))) [5]) wNil))))))))))
  (wRet (wC (.bl true)))))
theorem q_is_wide {P : Program} {w : World} {K : PySem.W.Frag} {mg : Str → Option Value} {base : Heap} (B : Blt mg bltNames) (D_inner : DefOk P w K mg base 3 "inner" ["x", "wide"] sp_inner) {f : Addr} {cdv : Value} {A : Around} {outer : List Env} {s : Shared} {H : Hp} {E : XK} (hr : Room 3 (A.deeper (envOfC "is_wide" (defScope s_is_wide) s.heap.objs.size f cdv))) :
    QSs (cxOf CX0 P w K mg base N_is_wide "is_wide" (defScope s_is_wide) f cdv A outer s H E).nox (defBody s_is_wide) (t_is_wide) :=
  (qss_cons (qs_set (fun h => ps_set (i := 1) sc_is_wide.nd rfl (.inl rfl) h) (qe_lst true (qa_cons (qe_tup (qa_cons (qe_var (pv 0)) (qa_cons (qe_tupP qa_nil) qa_nil))) qa_nil)))
  (qss_cons (qs_while PassesOwn.never (qt_tru (qe_var (pv 1))) (qss_cons (qs_asg (qe_meth0 PySem.F.slot_list_pop PySem.F.type_list_pop qm_pop (qe_var (pv 1))) (qg_tup rfl (qgs_cons (qg_name (pg_name (i := 2) sc_is_wide.nd rfl (.inl rfl))) (qgs_cons (qg_name (pg_name (i := 3) sc_is_wide.nd rfl (.inr rfl))) qgs_nil))))
  (qss_cons (qs_set (fun h => ps_set (i := 4) sc_is_wide.nd rfl (.inl rfl) h) (qe_def D_inner (hr.mono (by decide)) (qa_cons (qe_var (pv 2)) (qa_cons qe_bl qa_nil))))
  (qss_cons (qs_if (qt_cmp (qo_isM) (qe_var (pv 4)) qe_non (nomark _)) (qss_one (qs_ret qe_bl)) qss_nil)
  (qss_cons (qs_if (qt_w (qw_and (qt_cmp (qo_eq hr.u64) (qe_ix hr.u1 (qe_var (pv 2)) qe_int (fun _ _ => rfl)) qe_str (nomark _)) (qw_and1 (qt_cmp (qo_isnotM) (qe_get hr.u1 (qe_callT (qc_dictP rfl false) boot_dict (B "dict" (by decide)) (qa_cons (qe_var (pv 3)) qa_nil)) (qe_ix hr.u1 (qe_var (pv 2)) qe_int (fun _ _ => rfl)) (m1_of rfl rfl rfl rfl)) qe_bl (nomark _))))) (qss_one (qs_ret qe_bl)) qss_nil)
  (qss_cons (qs_if (qt_cmp (qo_eq hr.u64) (qe_ix hr.u1 (qe_var (pv 2)) qe_int (fun _ _ => rfl)) qe_str (nomark _)) (qss_one (qs_set (fun h => ps_set (i := 3) sc_is_wide.nd rfl (.inr rfl) h) (qe_callT qc_tupleP boot_tuple (B "tuple" (by decide)) (qa_cons (qe_lc (own := [("k", 6), ("even", 7)]) false rfl sc_is_wide.nd (qi_seq (qe_k (qe_var (pv 3)))) (blkOk_by (N := N_is_wide) (sc := defScope s_is_wide) (by decide +kernel)) (fun _ _ _ _ _ => (qgw_tup rfl (qgsw_cons (qgw_name (pg_name (i := 6) sc_is_wide.nd rfl (.inl rfl)) (by decide)) (qgsw_cons (qgw_name (pg_name (i := 7) sc_is_wide.nd rfl (.inl rfl)) (by decide)) qgsw_nil)))) (fun _ _ _ _ _ => qts_nil) (fun _ _ _ _ _ => (qe_tup (qa_cons (qe_var (pv 6)) (qa_cons (qe_not (qe_var (pv 7))) qa_nil))))) qa_nil)))) qss_nil)
  (qss_cons (qs_if (qt_cmp (qo_in hr.u66) (qe_ix hr.u1 (qe_var (pv 2)) qe_int (fun _ _ => rfl)) (qe_tup (qa_cons qe_str (qa_cons qe_str qa_nil))) (by rfl)) (qss_cons (qs_if (qt_cmp (qo_in hr.u66) (qe_ix hr.u1 (qe_var (pv 2)) qe_int (fun _ _ => rfl)) (qe_callT (qc_dictP rfl false) boot_dict (B "dict" (by decide)) (qa_cons (qe_var (pv 3)) qa_nil)) (by rfl)) (qss_one (qs_ret qe_bl)) qss_nil)
  (qss_one (qs_set (fun h => ps_set (i := 3) sc_is_wide.nd rfl (.inr rfl) h) (qe_op qo_addP (qe_var (pv 3)) (qe_tupP (qa_cons (qe_tup (qa_cons (qe_ix hr.u1 (qe_var (pv 2)) qe_int (fun _ _ => rfl)) (qa_cons qe_bl qa_nil))) qa_nil)))))) qss_nil)
  (qss_one (qs_expr (qe_meth PySem.F.slot_list_extend PySem.F.type_list_extend qm_extend (qe_var (pv 1)) (qa_cons (qe_lc (own := [("part", 5)]) false rfl sc_is_wide.nd (qi_seq (qe_var (pv 4))) (blkOk_by (N := N_is_wide) (sc := defScope s_is_wide) (by decide +kernel)) (fun _ _ _ _ _ => (qgw_name (pg_name (i := 5) sc_is_wide.nd rfl (.inl rfl)) (by decide))) (fun _ _ _ _ _ => qts_nil) (fun _ _ _ _ _ => (qe_tup (qa_cons (qe_var (pv 5)) (qa_cons (qe_var (pv 3)) qa_nil))))) qa_nil)))))))))))
  (qss_one (qs_ret qe_bl))))
abbrev s_is_net : Stmt := topS 11
abbrev N_is_net : List Str := ["x", "most", "one", "k"]
theorem sc_is_net : FnScope N_is_net ["x", "most"] (defScope s_is_net) := ⟨rfl, rfl, rfl, by decide +kernel, rfl, by decide +kernel, by decide +kernel⟩
def t_is_net : XS :=
  (wSeq (wIfS (wOr (wNot (wTru (wFn sp_is_tuple (wCons (wVar 0) (wCons (wC (.int 2)) wNil))))) (wOr (wNot (wTru (wFn sp_is_below (wCons (w2 (oAdd false) (wVar 1) (wC (.int 1))) (wCons (w2 oIx (wVar 0) (wC (.int 0))) wNil))))) (wNot (wTru (wCall (c2 (oIsi .tuple)) (wCons (w2 oIx (wVar 0) (wC (.int 1))) (wCons (wC (.ty "tuple")) wNil))))))) (wRet (wC (.bl false))) wNext)
  (wSeq (wFor (xSeq (w2 oIx (wVar 0) (wC (.int 1)))) (gSet 2) (wIfS (wOr (wNot (wTru (wFn sp_is_tuple (wCons (wVar 2) (wCons (wC (.int 2)) wNil))))) (wOr (wNot (wTru (wFn sp_are_below (wCons (w2 oIx (wVar 0) (wC (.int 0))) (wCons (wVar 2) wNil))))) (wNot (wB (w2 (oLtA) (w2 oIx (wVar 2) (wC (.int 0))) (w2 oIx (wVar 2) (wC (.int 1)))))))) (wRet (wC (.bl false))) wNext))
  (wRet (wCall (c1 oAll) (wCons (wLc false (xRng1 (wCons (w2 (oSub) (wCall (c1 oLen) (wCons (w2 oIx (wVar 0) (wC (.int 1))) wNil)) (wC (.int 1))) wNil)) (gSet 3) wYes (w2 (oLtA) (w2 oIx (w2 oIx (wVar 0) (wC (.int 1))) (wVar 3)) (w2 oIx (w2 oIx (wVar 0) (wC (.int 1))) (w2 (oAdd false) (wVar 3) (wC (.int 1))))) [3]) wNil)))))
theorem q_is_net {P : Program} {w : World} {K : PySem.W.Frag} {mg : Str → Option Value} {base : Heap} (B : Blt mg bltNames) (D_is_tuple : DefOk P w K mg base 1 "is_tuple" ["x", "many"] sp_is_tuple) (D_is_below : DefOk P w K mg base 2 "is_below" ["n", "x"] sp_is_below) (D_are_below : DefOk P w K mg base 3 "are_below" ["n", "x"] sp_are_below) {f : Addr} {cdv : Value} {A : Around} {outer : List Env} {s : Shared} {H : Hp} {E : XK} (hr : Room 3 (A.deeper (envOfC "is_net" (defScope s_is_net) s.heap.objs.size f cdv))) :
    QSs (cxOf CX0 P w K mg base N_is_net "is_net" (defScope s_is_net) f cdv A outer s H E).nox (defBody s_is_net) (t_is_net) :=
  (qss_cons (qs_if (qt_w (qw_or (qt_not (qt_tru (qe_def D_is_tuple (hr.mono (by decide)) (qa_cons (qe_var (pv 0)) (qa_cons qe_int qa_nil))))) (qw_or (qt_not (qt_tru (qe_def D_is_below (hr.mono (by decide)) (qa_cons (qe_op (qo_add false) (qe_var (pv 1)) qe_int) (qa_cons (qe_ix hr.u1 (qe_var (pv 0)) qe_int (fun _ _ => rfl)) qa_nil))))) (qw_or1 (qt_not (qt_tru (qe_callB (qc_isi .tuple) boot_isinstance (B "isinstance" (by decide)) (qa_cons (qe_ix hr.u1 (qe_var (pv 0)) qe_int (fun _ _ => rfl)) (qa_cons (qe_ty (B "tuple" (by decide)) boot_tuple) qa_nil))))))))) (qss_one (qs_ret qe_bl)) qss_nil)
  (qss_cons (qs_for PassesOwn.never rfl (qi_seq (qe_ix hr.u1 (qe_var (pv 0)) qe_int (fun _ _ => rfl))) (qg_name (pg_name (i := 2) sc_is_net.nd rfl (.inl rfl))) (qss_one (qs_if (qt_w (qw_or (qt_not (qt_tru (qe_def D_is_tuple (hr.mono (by decide)) (qa_cons (qe_var (pv 2)) (qa_cons qe_int qa_nil))))) (qw_or (qt_not (qt_tru (qe_def D_are_below (hr.mono (by decide)) (qa_cons (qe_ix hr.u1 (qe_var (pv 0)) qe_int (fun _ _ => rfl)) (qa_cons (qe_var (pv 2)) qa_nil))))) (qw_or1 (qt_not (qt_cmp (qo_ltA (Nat.lt_of_succ_lt hr.u1)) (qe_ix hr.u1 (qe_var (pv 2)) qe_int (fun _ _ => rfl)) (qe_ix hr.u1 (qe_var (pv 2)) qe_int (fun _ _ => rfl)) (nomark _))))))) (qss_one (qs_ret qe_bl)) qss_nil)))
  (qss_one (qs_ret (qe_callB (qc_all rfl) boot_all (B "all" (by decide)) (qa_cons (qe_lc (own := [("k", 3)]) false rfl sc_is_net.nd (qi_rng1 (B "range" (by decide)) (qa_cons (qe_op (qo_sub) (qe_callB (qc_len) PySem.boot_len (B "len" (by decide)) (qa_cons (qe_ix hr.u1 (qe_var (pv 0)) qe_int (fun _ _ => rfl)) qa_nil)) qe_int) qa_nil)) (blkOk_by (N := N_is_net) (sc := defScope s_is_net) (by decide +kernel)) (fun _ _ _ _ _ => (qgw_name (pg_name (i := 3) sc_is_net.nd rfl (.inl rfl)) (by decide))) (fun _ _ _ _ _ => qts_nil) (fun _ _ _ _ _ => (qe_cmp (qo_ltA (Nat.lt_of_succ_lt hr.u1)) (qe_ix hr.u1 (qe_ix hr.u1 (qe_var (pv 0)) qe_int (fun _ _ => rfl)) (qe_var (pv 3)) (fun _ _ => rfl)) (qe_ix hr.u1 (qe_ix hr.u1 (qe_var (pv 0)) qe_int (fun _ _ => rfl)) (qe_op (qo_add false) (qe_var (pv 3)) qe_int) (fun _ _ => rfl)) (nomark _)))) qa_nil))))))
abbrev s_check_system : Stmt := topS 19
abbrev N_check_system : List Str := ["x"]
theorem sc_check_system : FnScope N_check_system ["x"] (defScope s_check_system) := ⟨rfl, rfl, rfl, by decide +kernel, rfl, by decide +kernel, by decide +kernel⟩
def tx_check_system : XSX :=
  (wIfX (wNot (wTru (wFn sp_is_system (wCons (wVar 0) wNil)))) (wRaise "BadGame") (wCalm wNext))
theorem qx_check_system {P : Program} {w : World} {K : PySem.W.Frag} {mg : Str → Option Value} {base : Heap} (B : Blt mg bltNames) (D_is_system : DefOk P w K mg base 3 "is_system" ["x"] sp_is_system) {CX_BadGame : Addr} (X_BadGame : ExcCls K mg excBm "BadGame" CX_BadGame) {f : Addr} {cdv : Value} {A : Around} {outer : List Env} {s : Shared} {H : Hp} {E : XK} {W : WX} (hr : Room 3 (A.deeper (envOfC "check_system" (defScope s_check_system) s.heap.objs.size f cdv))) (tk : Takes (cxOf (L2.CX P w) P w K mg base N_check_system "check_system" (defScope s_check_system) f cdv A outer s H E) W) :
    QXs (cxOf (L2.CX P w) P w K mg base N_check_system "check_system" (defScope s_check_system) f cdv A outer s H E) W (defBody s_check_system) tx_check_system :=
  (qxs_one (qx_if (qt_not (qt_tru (qe_def D_is_system (hr.mono (by decide)) (qa_cons (qe_var (pv 0)) qa_nil)))) (qxs_one (qx_raise rfl tk PySem.F.excBase_ValueError X_BadGame)) qxs_nil))
abbrev s_check_state : Stmt := topS 20
abbrev N_check_state : List Str := ["system", "x"]
theorem sc_check_state : FnScope N_check_state ["system", "x"] (defScope s_check_state) := ⟨rfl, rfl, rfl, by decide +kernel, rfl, by decide +kernel, by decide +kernel⟩
def tx_check_state : XSX :=
  (wIfX (wOr (wNot (wTru (wCall (c2 (oIsi .int)) (wCons (wVar 1) (wCons (wC (.ty "int")) wNil))))) (wOr (wTru (wCall (c2 (oIsi .bool)) (wCons (wVar 1) (wCons (wC (.ty "bool")) wNil)))) (wNot (wB (wChain (oLe) (oLt) (wC (.int 0)) (wVar 1) (w2 oIx (wVar 0) (wC (.int 0)))))))) (wRaise "BadPlace") (wCalm wNext))
theorem qx_check_state {P : Program} {w : World} {K : PySem.W.Frag} {mg : Str → Option Value} {base : Heap} (B : Blt mg bltNames) {CX_BadPlace : Addr} (X_BadPlace : ExcCls K mg excBm "BadPlace" CX_BadPlace) {f : Addr} {cdv : Value} {A : Around} {outer : List Env} {s : Shared} {H : Hp} {E : XK} {W : WX} (hr : Room 0 (A.deeper (envOfC "check_state" (defScope s_check_state) s.heap.objs.size f cdv))) (tk : Takes (cxOf (L2.CX P w) P w K mg base N_check_state "check_state" (defScope s_check_state) f cdv A outer s H E) W) :
    QXs (cxOf (L2.CX P w) P w K mg base N_check_state "check_state" (defScope s_check_state) f cdv A outer s H E) W (defBody s_check_state) tx_check_state :=
  (qxs_one (qx_if (qt_w (qw_or (qt_not (qt_tru (qe_callB (qc_isi .int) boot_isinstance (B "isinstance" (by decide)) (qa_cons (qe_var (pv 1)) (qa_cons (qe_ty (B "int" (by decide)) boot_int) qa_nil))))) (qw_or (qt_tru (qe_callB (qc_isi .bool) boot_isinstance (B "isinstance" (by decide)) (qa_cons (qe_var (pv 1)) (qa_cons (qe_ty (B "bool" (by decide)) boot_bool) qa_nil)))) (qw_or1 (qt_not (qt_chain (qo_le) (qo_lt) qe_int (qe_var (pv 1)) (qe_ix hr.u1 (qe_var (pv 0)) qe_int (fun _ _ => rfl)))))))) (qxs_one (qx_raise rfl tk PySem.F.excBase_ValueError X_BadPlace)) qxs_nil))
abbrev s_alike : Stmt := topS 24
abbrev N_alike : List Str := ["a", "x", "b", "y", "apart", "pairs", "one", "other"]
theorem sc_alike : FnScope N_alike ["a", "x", "b", "y"] (defScope s_alike) := ⟨rfl, rfl, rfl, by decide +kernel, rfl, by decide +kernel, by decide +kernel⟩
def tx_alike : XSX :=
  (wSeqX (wDropX (wFnX spx_check_system (wCons (wVar 0) wNil)))
  (wSeqX (wDropX (wFnX spx_check_system (wCons (wVar 2) wNil)))
  (wSeqX (wDropX (wFnX spx_check_state (wCons (wVar 0) (wCons (wVar 1) wNil))))
  (wSeqX (wDropX (wFnX spx_check_state (wCons (wVar 2) (wCons (wVar 3) wNil))))
  (fun _ _ _ _ => False)))))
theorem qx_alike {P : Program} {w : World} {K : PySem.W.Frag} {mg : Str → Option Value} {base : Heap} (B : Blt mg bltNames) (DX_check_system : DefOkX P w K mg base 4 "check_system" ["x"] spx_check_system) (DX_check_state : DefOkX P w K mg base 1 "check_state" ["system", "x"] spx_check_state) {f : Addr} {cdv : Value} {A : Around} {outer : List Env} {s : Shared} {H : Hp} {E : XK} {W : WX} (hr : Room 4 (A.deeper (envOfC "alike" (defScope s_alike) s.heap.objs.size f cdv))) (tk : Takes (cxOf (L2.CX P w) P w K mg base N_alike "alike" (defScope s_alike) f cdv A outer s H E) W) :
    QXs (cxOf (L2.CX P w) P w K mg base N_alike "alike" (defScope s_alike) f cdv A outer s H E) W (defBody s_alike) tx_alike :=
  (qxs_cons (qx_expr (qe_defX DX_check_system (hr.mono (by decide)) tk (qa_cons (qe_var (pv 0)) qa_nil)))
  (qxs_cons (qx_expr (qe_defX DX_check_system (hr.mono (by decide)) tk (qa_cons (qe_var (pv 2)) qa_nil)))
  (qxs_cons (qx_expr (qe_defX DX_check_state (hr.mono (by decide)) tk (qa_cons (qe_var (pv 0)) (qa_cons (qe_var (pv 1)) qa_nil))))
  (qxs_cons (qx_expr (qe_defX DX_check_state (hr.mono (by decide)) tk (qa_cons (qe_var (pv 2)) (qa_cons (qe_var (pv 3)) qa_nil))))
  qxs_never))))
abbrev s_holds_at : Stmt := topS 27
abbrev N_holds_at : List Str := ["system", "x", "formula"]
theorem sc_holds_at : FnScope N_holds_at ["system", "x", "formula"] (defScope s_holds_at) := ⟨rfl, rfl, rfl, by decide +kernel, rfl, by decide +kernel, by decide +kernel⟩
def tx_holds_at : XSX :=
  (wSeqX (wDropX (wFnX spx_check_system (wCons (wVar 0) wNil)))
  (wSeqX (wIfX (wNot (wTru (wFn sp_is_formula (wCons (wVar 2) wNil)))) (wRaise "BadGame") (wCalm wNext))
  (wSeqX (wDropX (wFnX spx_check_state (wCons (wVar 0) (wCons (wVar 1) wNil))))
  (fun _ _ _ _ => False))))
theorem qx_holds_at {P : Program} {w : World} {K : PySem.W.Frag} {mg : Str → Option Value} {base : Heap} (B : Blt mg bltNames) (D_is_formula : DefOk P w K mg base 4 "is_formula" ["x"] sp_is_formula) (DX_check_system : DefOkX P w K mg base 4 "check_system" ["x"] spx_check_system) (DX_check_state : DefOkX P w K mg base 1 "check_state" ["system", "x"] spx_check_state) {CX_BadGame : Addr} (X_BadGame : ExcCls K mg excBm "BadGame" CX_BadGame) {f : Addr} {cdv : Value} {A : Around} {outer : List Env} {s : Shared} {H : Hp} {E : XK} {W : WX} (hr : Room 4 (A.deeper (envOfC "holds_at" (defScope s_holds_at) s.heap.objs.size f cdv))) (tk : Takes (cxOf (L2.CX P w) P w K mg base N_holds_at "holds_at" (defScope s_holds_at) f cdv A outer s H E) W) :
    QXs (cxOf (L2.CX P w) P w K mg base N_holds_at "holds_at" (defScope s_holds_at) f cdv A outer s H E) W (defBody s_holds_at) tx_holds_at :=
  (qxs_cons (qx_expr (qe_defX DX_check_system (hr.mono (by decide)) tk (qa_cons (qe_var (pv 0)) qa_nil)))
  (qxs_cons (qx_if (qt_not (qt_tru (qe_def D_is_formula (hr.mono (by decide)) (qa_cons (qe_var (pv 2)) qa_nil)))) (qxs_one (qx_raise rfl tk PySem.F.excBase_ValueError X_BadGame)) qxs_nil)
  (qxs_cons (qx_expr (qe_defX DX_check_state (hr.mono (by decide)) tk (qa_cons (qe_var (pv 0)) (qa_cons (qe_var (pv 1)) qa_nil))))
  qxs_never)))
abbrev s_classes : Stmt := topS 28
abbrev N_classes : List Str := ["system", "apart", "out", "many", "x", "like", "y"]
theorem sc_classes : FnScope N_classes ["system"] (defScope s_classes) := ⟨rfl, rfl, rfl, by decide +kernel, rfl, by decide +kernel, by decide +kernel⟩
def tx_classes : XSX :=
  (wSeqX (wDropX (wFnX spx_check_system (wCons (wVar 0) wNil)))
  (fun _ _ _ _ => False))
theorem qx_classes {P : Program} {w : World} {K : PySem.W.Frag} {mg : Str → Option Value} {base : Heap} (B : Blt mg bltNames) (DX_check_system : DefOkX P w K mg base 4 "check_system" ["x"] spx_check_system) {f : Addr} {cdv : Value} {A : Around} {outer : List Env} {s : Shared} {H : Hp} {E : XK} {W : WX} (hr : Room 4 (A.deeper (envOfC "classes" (defScope s_classes) s.heap.objs.size f cdv))) (tk : Takes (cxOf (L2.CX P w) P w K mg base N_classes "classes" (defScope s_classes) f cdv A outer s H E) W) :
    QXs (cxOf (L2.CX P w) P w K mg base N_classes "classes" (defScope s_classes) f cdv A outer s H E) W (defBody s_classes) tx_classes :=
  (qxs_cons (qx_expr (qe_defX DX_check_system (hr.mono (by decide)) tk (qa_cons (qe_var (pv 0)) qa_nil)))
  qxs_never)
abbrev s_is_likeness : Stmt := topS 30
abbrev N_is_likeness : List Str := ["a", "b", "pairs", "x", "y", "start", "label", "z", "w"]
theorem sc_is_likeness : FnScope N_is_likeness ["a", "b", "pairs"] (defScope s_is_likeness) := ⟨rfl, rfl, rfl, by decide +kernel, rfl, by decide +kernel, by decide +kernel⟩
def tx_is_likeness : XSX :=
  (wSeqX (wDropX (wFnX spx_check_system (wCons (wVar 0) wNil)))
  (wSeqX (wDropX (wFnX spx_check_system (wCons (wVar 1) wNil)))
  (fun _ _ _ _ => False)))
theorem qx_is_likeness {P : Program} {w : World} {K : PySem.W.Frag} {mg : Str → Option Value} {base : Heap} (B : Blt mg bltNames) (DX_check_system : DefOkX P w K mg base 4 "check_system" ["x"] spx_check_system) {f : Addr} {cdv : Value} {A : Around} {outer : List Env} {s : Shared} {H : Hp} {E : XK} {W : WX} (hr : Room 4 (A.deeper (envOfC "is_likeness" (defScope s_is_likeness) s.heap.objs.size f cdv))) (tk : Takes (cxOf (L2.CX P w) P w K mg base N_is_likeness "is_likeness" (defScope s_is_likeness) f cdv A outer s H E) W) :
    QXs (cxOf (L2.CX P w) P w K mg base N_is_likeness "is_likeness" (defScope s_is_likeness) f cdv A outer s H E) W (defBody s_is_likeness) tx_is_likeness :=
  (qxs_cons (qx_expr (qe_defX DX_check_system (hr.mono (by decide)) tk (qa_cons (qe_var (pv 0)) qa_nil)))
  (qxs_cons (qx_expr (qe_defX DX_check_system (hr.mono (by decide)) tk (qa_cons (qe_var (pv 1)) qa_nil)))
  qxs_never))
abbrev s_is_whole : Stmt := topS 33
abbrev N_is_whole : List Str := ["x"]
theorem sc_is_whole : FnScope N_is_whole ["x"] (defScope s_is_whole) := ⟨rfl, rfl, rfl, by decide +kernel, rfl, by decide +kernel, by decide +kernel⟩
def t_is_whole : XS :=
  (wRet (wAndV (wCall (c2 (oIsi .int)) (wCons (wVar 0) (wCons (wC (.ty "int")) wNil))) (wAndV (wNotV (wCall (c2 (oIsi .bool)) (wCons (wVar 0) (wCons (wC (.ty "bool")) wNil)))) (w2 (oGe) (wVar 0) (wC (.int 0))))))
theorem q_is_whole {P : Program} {w : World} {K : PySem.W.Frag} {mg : Str → Option Value} {base : Heap} (B : Blt mg bltNames) {f : Addr} {cdv : Value} {A : Around} {outer : List Env} {s : Shared} {H : Hp} {E : XK} (hr : Room 0 (A.deeper (envOfC "is_whole" (defScope s_is_whole) s.heap.objs.size f cdv))) :
    QSs (cxOf CX0 P w K mg base N_is_whole "is_whole" (defScope s_is_whole) f cdv A outer s H E).nox (defBody s_is_whole) (t_is_whole) :=
  (qss_one (qs_ret (qe_and (qe_callB (qc_isi .int) boot_isinstance (B "isinstance" (by decide)) (qa_cons (qe_var (pv 0)) (qa_cons (qe_ty (B "int" (by decide)) boot_int) qa_nil))) (qe_and (qe_not (qe_callB (qc_isi .bool) boot_isinstance (B "isinstance" (by decide)) (qa_cons (qe_var (pv 0)) (qa_cons (qe_ty (B "bool" (by decide)) boot_bool) qa_nil)))) (qe_one (qe_cmp (qo_ge) (qe_var (pv 0)) qe_int (nomark _)))))))
abbrev s_is_sentence : Stmt := topS 34
abbrev N_is_sentence : List Str := ["x", "one"]
theorem sc_is_sentence : FnScope N_is_sentence ["x"] (defScope s_is_sentence) := ⟨rfl, rfl, rfl, by decide +kernel, rfl, by decide +kernel, by decide +kernel⟩
def t_is_sentence (sp_rec : XSp) : XS :=
  (wSeq (wIfS (wOr (wNot (wTru (wCall (c2 (oIsi .tuple)) (wCons (wVar 0) (wCons (wC (.ty "tuple")) wNil))))) (wOr (wB (w2 (oEq false) (wCall (c1 oLen) (wCons (wVar 0) wNil)) (wC (.int 0)))) (wNot (wTru (wCall (c2 (oIsi .str)) (wCons (w2 oIx (wVar 0) (wC (.int 0))) (wCons (wC (.ty "str")) wNil))))))) (wRet (wC (.bl false))) wNext)
  (wSeq (wIfS (wB (w2 (oIn false) (w2 oIx (wVar 0) (wC (.int 0))) (wTup (wCons (wC (.str "same")) (wCons (wC (.str "tied")) wNil))))) (wRet (wAndV (w2 (oEq false) (wCall (c1 oLen) (wCons (wVar 0) wNil)) (wC (.int 3))) (wAndV (wFn sp_is_whole (wCons (w2 oIx (wVar 0) (wC (.int 1))) wNil)) (wFn sp_is_whole (wCons (w2 oIx (wVar 0) (wC (.int 2))) wNil))))) wNext)
  (wSeq (wIfS (wB (w2 (oEq true) (wCall (c1 oLen) (wCons (wVar 0) wNil)) (wC (.int 2)))) (wRet (wC (.bl false))) wNext)
  (wSeq (wIfS (wB (w2 (oIn false) (w2 oIx (wVar 0) (wC (.int 0))) (wTup (wCons (wC (.str "not")) (wCons (wC (.str "some")) wNil))))) (wRet (wFn sp_rec (wCons (w2 oIx (wVar 0) (wC (.int 1))) wNil))) wNext)
  (wRet (wAndV (w2 (oEq false) (w2 oIx (wVar 0) (wC (.int 0))) (wC (.str "and"))) (wAndV (wCall (c2 (oIsi .tuple)) (wCons (w2 oIx (wVar 0) (wC (.int 1))) (wCons (wC (.ty "tuple")) wNil))) (wCall (c1 oAll) (wCons (wLc false (xSeq (w2 oIx (wVar 0) (wC (.int 1)))) (gSet 1) wYes (wFn sp_rec (wCons (wVar 1) wNil)) [1]) wNil)))))))))
theorem q_is_sentence {P : Program} {w : World} {K : PySem.W.Frag} {mg : Str → Option Value} {base : Heap} {kr : Nat} (hkr : 1 ≤ kr) (B : Blt mg bltNames) (D_is_whole : DefOk P w K mg base 1 "is_whole" ["x"] sp_is_whole) (D_is_sentence : DefOk P w K mg base kr "is_sentence" ["x"] sp_rec) {f : Addr} {cdv : Value} {A : Around} {outer : List Env} {s : Shared} {H : Hp} {E : XK} (hr : Room kr (A.deeper (envOfC "is_sentence" (defScope s_is_sentence) s.heap.objs.size f cdv))) :
    QSs (cxOf CX0 P w K mg base N_is_sentence "is_sentence" (defScope s_is_sentence) f cdv A outer s H E).nox (defBody s_is_sentence) (t_is_sentence sp_rec) :=
  (qss_cons (qs_if (qt_w (qw_or (qt_not (qt_tru (qe_callB (qc_isi .tuple) boot_isinstance (B "isinstance" (by decide)) (qa_cons (qe_var (pv 0)) (qa_cons (qe_ty (B "tuple" (by decide)) boot_tuple) qa_nil))))) (qw_or (qt_cmp (qo_eq hr.u64) (qe_callB (qc_len) PySem.boot_len (B "len" (by decide)) (qa_cons (qe_var (pv 0)) qa_nil)) qe_int (nomark _)) (qw_or1 (qt_not (qt_tru (qe_callB (qc_isi .str) boot_isinstance (B "isinstance" (by decide)) (qa_cons (qe_ix hr.u1 (qe_var (pv 0)) qe_int (fun _ _ => rfl)) (qa_cons (qe_ty (B "str" (by decide)) boot_str) qa_nil))))))))) (qss_one (qs_ret qe_bl)) qss_nil)
  (qss_cons (qs_if (qt_cmp (qo_in hr.u66) (qe_ix hr.u1 (qe_var (pv 0)) qe_int (fun _ _ => rfl)) (qe_tup (qa_cons qe_str (qa_cons qe_str qa_nil))) (by rfl)) (qss_one (qs_ret (qe_and (qe_cmp (qo_eq hr.u64) (qe_callB (qc_len) PySem.boot_len (B "len" (by decide)) (qa_cons (qe_var (pv 0)) qa_nil)) qe_int (nomark _)) (qe_and (qe_def D_is_whole (hr.mono (Nat.le_trans (by decide) hkr)) (qa_cons (qe_ix hr.u1 (qe_var (pv 0)) qe_int (fun _ _ => rfl)) qa_nil)) (qe_one (qe_def D_is_whole (hr.mono (Nat.le_trans (by decide) hkr)) (qa_cons (qe_ix hr.u1 (qe_var (pv 0)) qe_int (fun _ _ => rfl)) qa_nil))))))) qss_nil)
  (qss_cons (qs_if (qt_cmp (qo_ne hr.u64) (qe_callB (qc_len) PySem.boot_len (B "len" (by decide)) (qa_cons (qe_var (pv 0)) qa_nil)) qe_int (nomark _)) (qss_one (qs_ret qe_bl)) qss_nil)
  (qss_cons (qs_if (qt_cmp (qo_in hr.u66) (qe_ix hr.u1 (qe_var (pv 0)) qe_int (fun _ _ => rfl)) (qe_tup (qa_cons qe_str (qa_cons qe_str qa_nil))) (by rfl)) (qss_one (qs_ret (qe_def D_is_sentence hr (qa_cons (qe_ix hr.u1 (qe_var (pv 0)) qe_int (fun _ _ => rfl)) qa_nil)))) qss_nil)
  (qss_one (qs_ret (qe_and (qe_cmp (qo_eq hr.u64) (qe_ix hr.u1 (qe_var (pv 0)) qe_int (fun _ _ => rfl)) qe_str (nomark _)) (qe_and (qe_callB (qc_isi .tuple) boot_isinstance (B "isinstance" (by decide)) (qa_cons (qe_ix hr.u1 (qe_var (pv 0)) qe_int (fun _ _ => rfl)) (qa_cons (qe_ty (B "tuple" (by decide)) boot_tuple) qa_nil))) (qe_one (qe_callB (qc_all rfl) boot_all (B "all" (by decide)) (qa_cons (qe_lc (own := [("one", 1)]) false rfl sc_is_sentence.nd (qi_seq (qe_ix hr.u1 (qe_var (pv 0)) qe_int (fun _ _ => rfl))) (blkOk_by (N := N_is_sentence) (sc := defScope s_is_sentence) (by decide +kernel)) (fun _ _ _ _ _ => (qgw_name (pg_name (i := 1) sc_is_sentence.nd rfl (.inl rfl)) (by decide))) (fun _ _ _ _ _ => qts_nil) (fun _ _ _ _ _ => (qe_def D_is_sentence hr (qa_cons (qe_var (pv 1)) qa_nil)))) qa_nil)))))))))))
abbrev s_check_sentence : Stmt := topS 35
abbrev N_check_sentence : List Str := ["x"]
theorem sc_check_sentence : FnScope N_check_sentence ["x"] (defScope s_check_sentence) := ⟨rfl, rfl, rfl, by decide +kernel, rfl, by decide +kernel, by decide +kernel⟩
def tx_check_sentence : XSX :=
  (wIfX (wNot (wTru (wFn sp_is_sentence (wCons (wVar 0) wNil)))) (wRaise "BadGame") (wCalm wNext))
theorem qx_check_sentence {P : Program} {w : World} {K : PySem.W.Frag} {mg : Str → Option Value} {base : Heap} (B : Blt mg bltNames) (D_is_sentence : DefOk P w K mg base 26 "is_sentence" ["x"] sp_is_sentence) {CX_BadGame : Addr} (X_BadGame : ExcCls K mg excBm "BadGame" CX_BadGame) {f : Addr} {cdv : Value} {A : Around} {outer : List Env} {s : Shared} {H : Hp} {E : XK} {W : WX} (hr : Room 26 (A.deeper (envOfC "check_sentence" (defScope s_check_sentence) s.heap.objs.size f cdv))) (tk : Takes (cxOf (L2.CX P w) P w K mg base N_check_sentence "check_sentence" (defScope s_check_sentence) f cdv A outer s H E) W) :
    QXs (cxOf (L2.CX P w) P w K mg base N_check_sentence "check_sentence" (defScope s_check_sentence) f cdv A outer s H E) W (defBody s_check_sentence) tx_check_sentence :=
  (qxs_one (qx_if (qt_not (qt_tru (qe_def D_is_sentence (hr.mono (by decide)) (qa_cons (qe_var (pv 0)) qa_nil)))) (qxs_one (qx_raise rfl tk PySem.F.excBase_ValueError X_BadGame)) qxs_nil))
abbrev s_check_net : Stmt := topS 36
abbrev N_check_net : List Str := ["x"]
theorem sc_check_net : FnScope N_check_net ["x"] (defScope s_check_net) := ⟨rfl, rfl, rfl, by decide +kernel, rfl, by decide +kernel, by decide +kernel⟩
def tx_check_net : XSX :=
  (wIfX (wNot (wTru (wFn sp_is_net (wCons (wVar 0) (wCons (wC (.int 5)) wNil))))) (wRaise "BadGame") (wCalm wNext))
theorem qx_check_net {P : Program} {w : World} {K : PySem.W.Frag} {mg : Str → Option Value} {base : Heap} (B : Blt mg bltNames) (D_is_net : DefOk P w K mg base 4 "is_net" ["x", "most"] sp_is_net) (C_MOST_POINTS : GInt mg "MOST_POINTS" 5) {CX_BadGame : Addr} (X_BadGame : ExcCls K mg excBm "BadGame" CX_BadGame) {f : Addr} {cdv : Value} {A : Around} {outer : List Env} {s : Shared} {H : Hp} {E : XK} {W : WX} (hr : Room 4 (A.deeper (envOfC "check_net" (defScope s_check_net) s.heap.objs.size f cdv))) (tk : Takes (cxOf (L2.CX P w) P w K mg base N_check_net "check_net" (defScope s_check_net) f cdv A outer s H E) W) :
    QXs (cxOf (L2.CX P w) P w K mg base N_check_net "check_net" (defScope s_check_net) f cdv A outer s H E) W (defBody s_check_net) tx_check_net :=
  (qxs_one (qx_if (qt_not (qt_tru (qe_def D_is_net (hr.mono (by decide)) (qa_cons (qe_var (pv 0)) (qa_cons (qe_globI C_MOST_POINTS) qa_nil))))) (qxs_one (qx_raise rfl tk PySem.F.excBase_ValueError X_BadGame)) qxs_nil))
abbrev s_depth_of : Stmt := topS 38
abbrev N_depth_of : List Str := ["sentence"]
theorem sc_depth_of : FnScope N_depth_of ["sentence"] (defScope s_depth_of) := ⟨rfl, rfl, rfl, by decide +kernel, rfl, by decide +kernel, by decide +kernel⟩
def tx_depth_of : XSX :=
  (wSeqX (wDropX (wFnX spx_check_sentence (wCons (wVar 0) wNil)))
  (fun _ _ _ _ => False))
theorem qx_depth_of {P : Program} {w : World} {K : PySem.W.Frag} {mg : Str → Option Value} {base : Heap} (B : Blt mg bltNames) (DX_check_sentence : DefOkX P w K mg base 27 "check_sentence" ["x"] spx_check_sentence) {f : Addr} {cdv : Value} {A : Around} {outer : List Env} {s : Shared} {H : Hp} {E : XK} {W : WX} (hr : Room 27 (A.deeper (envOfC "depth_of" (defScope s_depth_of) s.heap.objs.size f cdv))) (tk : Takes (cxOf (L2.CX P w) P w K mg base N_depth_of "depth_of" (defScope s_depth_of) f cdv A outer s H E) W) :
    QXs (cxOf (L2.CX P w) P w K mg base N_depth_of "depth_of" (defScope s_depth_of) f cdv A outer s H E) W (defBody s_depth_of) tx_depth_of :=
  (qxs_cons (qx_expr (qe_defX DX_check_sentence (hr.mono (by decide)) tk (qa_cons (qe_var (pv 0)) qa_nil)))
  qxs_never)
abbrev s_apart_by : Stmt := topS 42
abbrev N_apart_by : List Str := ["a", "b", "d", "sentence"]
theorem sc_apart_by : FnScope N_apart_by ["a", "b", "d"] (defScope s_apart_by) := ⟨rfl, rfl, rfl, by decide +kernel, rfl, by decide +kernel, by decide +kernel⟩
def tx_apart_by : XSX :=
  (wSeqX (wDropX (wFnX spx_check_net (wCons (wVar 0) wNil)))
  (wSeqX (wDropX (wFnX spx_check_net (wCons (wVar 1) wNil)))
  (wSeqX (wIfX (wOr (wNot (wTru (wFn sp_is_whole (wCons (wVar 2) wNil)))) (wB (w2 (oGt) (wVar 2) (wC (.int 3))))) (wRaise "TooMuch") (wCalm wNext))
  (fun _ _ _ _ => False))))
theorem qx_apart_by {P : Program} {w : World} {K : PySem.W.Frag} {mg : Str → Option Value} {base : Heap} (B : Blt mg bltNames) (D_is_whole : DefOk P w K mg base 1 "is_whole" ["x"] sp_is_whole) (DX_check_net : DefOkX P w K mg base 5 "check_net" ["x"] spx_check_net) {CX_TooMuch : Addr} (X_TooMuch : ExcCls K mg excBm "TooMuch" CX_TooMuch) {f : Addr} {cdv : Value} {A : Around} {outer : List Env} {s : Shared} {H : Hp} {E : XK} {W : WX} (hr : Room 5 (A.deeper (envOfC "apart_by" (defScope s_apart_by) s.heap.objs.size f cdv))) (tk : Takes (cxOf (L2.CX P w) P w K mg base N_apart_by "apart_by" (defScope s_apart_by) f cdv A outer s H E) W) :
    QXs (cxOf (L2.CX P w) P w K mg base N_apart_by "apart_by" (defScope s_apart_by) f cdv A outer s H E) W (defBody s_apart_by) tx_apart_by :=
  (qxs_cons (qx_expr (qe_defX DX_check_net (hr.mono (by decide)) tk (qa_cons (qe_var (pv 0)) qa_nil)))
  (qxs_cons (qx_expr (qe_defX DX_check_net (hr.mono (by decide)) tk (qa_cons (qe_var (pv 1)) qa_nil)))
  (qxs_cons (qx_if (qt_w (qw_or (qt_not (qt_tru (qe_def D_is_whole (hr.mono (by decide)) (qa_cons (qe_var (pv 2)) qa_nil)))) (qw_or1 (qt_cmp (qo_gt) (qe_var (pv 2)) qe_int (nomark _))))) (qxs_one (qx_raise rfl tk PySem.F.excBase_ValueError X_TooMuch)) qxs_nil)
  qxs_never)))
abbrev s_check_both : Stmt := topS 46
abbrev N_check_both : List Str := ["system", "formula"]
theorem sc_check_both : FnScope N_check_both ["system", "formula"] (defScope s_check_both) := ⟨rfl, rfl, rfl, by decide +kernel, rfl, by decide +kernel, by decide +kernel⟩
def tx_check_both : XSX :=
  (wSeqX (wDropX (wFnX spx_check_system (wCons (wVar 0) wNil)))
  (wIfX (wNot (wTru (wFn sp_is_wide (wCons (wVar 1) wNil)))) (wRaise "BadGame") (wCalm wNext)))
theorem qx_check_both {P : Program} {w : World} {K : PySem.W.Frag} {mg : Str → Option Value} {base : Heap} (B : Blt mg bltNames) (D_is_wide : DefOk P w K mg base 4 "is_wide" ["x"] sp_is_wide) (DX_check_system : DefOkX P w K mg base 4 "check_system" ["x"] spx_check_system) {CX_BadGame : Addr} (X_BadGame : ExcCls K mg excBm "BadGame" CX_BadGame) {f : Addr} {cdv : Value} {A : Around} {outer : List Env} {s : Shared} {H : Hp} {E : XK} {W : WX} (hr : Room 4 (A.deeper (envOfC "check_both" (defScope s_check_both) s.heap.objs.size f cdv))) (tk : Takes (cxOf (L2.CX P w) P w K mg base N_check_both "check_both" (defScope s_check_both) f cdv A outer s H E) W) :
    QXs (cxOf (L2.CX P w) P w K mg base N_check_both "check_both" (defScope s_check_both) f cdv A outer s H E) W (defBody s_check_both) tx_check_both :=
  (qxs_cons (qx_expr (qe_defX DX_check_system (hr.mono (by decide)) tk (qa_cons (qe_var (pv 0)) qa_nil)))
  (qxs_one (qx_if (qt_not (qt_tru (qe_def D_is_wide (hr.mono (by decide)) (qa_cons (qe_var (pv 1)) qa_nil)))) (qxs_one (qx_raise rfl tk PySem.F.excBase_ValueError X_BadGame)) qxs_nil)))
abbrev s_where : Stmt := topS 50
abbrev N_where : List Str := ["system", "formula", "found", "x"]
theorem sc_where : FnScope N_where ["system", "formula"] (defScope s_where) := ⟨rfl, rfl, rfl, by decide +kernel, rfl, by decide +kernel, by decide +kernel⟩
def tx_where : XSX :=
  (wSeqX (wDropX (wFnX spx_check_both (wCons (wVar 0) (wCons (wVar 1) wNil))))
  (fun _ _ _ _ => False))
theorem qx_where {P : Program} {w : World} {K : PySem.W.Frag} {mg : Str → Option Value} {base : Heap} (B : Blt mg bltNames) (DX_check_both : DefOkX P w K mg base 5 "check_both" ["system", "formula"] spx_check_both) {f : Addr} {cdv : Value} {A : Around} {outer : List Env} {s : Shared} {H : Hp} {E : XK} {W : WX} (hr : Room 5 (A.deeper (envOfC "where" (defScope s_where) s.heap.objs.size f cdv))) (tk : Takes (cxOf (L2.CX P w) P w K mg base N_where "where" (defScope s_where) f cdv A outer s H E) W) :
    QXs (cxOf (L2.CX P w) P w K mg base N_where "where" (defScope s_where) f cdv A outer s H E) W (defBody s_where) tx_where :=
  (qxs_cons (qx_expr (qe_defX DX_check_both (hr.mono (by decide)) tk (qa_cons (qe_var (pv 0)) (qa_cons (qe_var (pv 1)) qa_nil))))
  qxs_never)
abbrev s_game_of : Stmt := topS 53
abbrev N_game_of : List Str := ["system", "formula", "parts", "number", "row", "x", "owners", "moves", "marks", "at", "k", "first", "there", "place", "word", "straight", "won"]
theorem sc_game_of : FnScope N_game_of ["system", "formula"] (defScope s_game_of) := ⟨rfl, rfl, rfl, by decide +kernel, rfl, by decide +kernel, by decide +kernel⟩
def tx_game_of : XSX :=
  (wSeqX (wDropX (wFnX spx_check_both (wCons (wVar 0) (wCons (wVar 1) wNil))))
  (fun _ _ _ _ => False))
theorem qx_game_of {P : Program} {w : World} {K : PySem.W.Frag} {mg : Str → Option Value} {base : Heap} (B : Blt mg bltNames) (DX_check_both : DefOkX P w K mg base 5 "check_both" ["system", "formula"] spx_check_both) {f : Addr} {cdv : Value} {A : Around} {outer : List Env} {s : Shared} {H : Hp} {E : XK} {W : WX} (hr : Room 5 (A.deeper (envOfC "game_of" (defScope s_game_of) s.heap.objs.size f cdv))) (tk : Takes (cxOf (L2.CX P w) P w K mg base N_game_of "game_of" (defScope s_game_of) f cdv A outer s H E) W) :
    QXs (cxOf (L2.CX P w) P w K mg base N_game_of "game_of" (defScope s_game_of) f cdv A outer s H E) W (defBody s_game_of) tx_game_of :=
  (qxs_cons (qx_expr (qe_defX DX_check_both (hr.mono (by decide)) tk (qa_cons (qe_var (pv 0)) (qa_cons (qe_var (pv 1)) qa_nil))))
  qxs_never)
abbrev s__law_box : Stmt := topS 55
abbrev N__law_box : List Str := ["script", "x"]
theorem sc__law_box : FnScope N__law_box ["script"] (defScope s__law_box) := ⟨rfl, rfl, rfl, by decide +kernel, rfl, by decide +kernel, by decide +kernel⟩
def t__law_box : XS :=
  (wRet (wLst true (wCons (wC (.int 0)) (wCons (wC (.int 0)) (wCons (wC (.int 0)) (wCons (wLc false (xSeq (wVar 0)) (gSet 1) wYes (wCall (c1 oAbs) (wCons (wCall (c1 oInt) (wCons (wVar 1) wNil)) wNil)) [1]) wNil))))))
theorem q__law_box {P : Program} {w : World} {K : PySem.W.Frag} {mg : Str → Option Value} {base : Heap} (B : Blt mg bltNames) {f : Addr} {cdv : Value} {A : Around} {outer : List Env} {s : Shared} {H : Hp} {E : XK} (hr : Room 0 (A.deeper (envOfC "_law_box" (defScope s__law_box) s.heap.objs.size f cdv))) :
    QSs (cxOf CX0 P w K mg base N__law_box "_law_box" (defScope s__law_box) f cdv A outer s H E).nox (defBody s__law_box) (t__law_box) :=
  (qss_one (qs_ret (qe_lst true (qa_cons qe_int (qa_cons qe_int (qa_cons qe_int (qa_cons (qe_lc (own := [("x", 1)]) false rfl sc__law_box.nd (qi_seq (qe_var (pv 0))) (blkOk_by (N := N__law_box) (sc := defScope s__law_box) (by decide +kernel)) (fun _ _ _ _ _ => (qgw_name (pg_name (i := 1) sc__law_box.nd rfl (.inl rfl)) (by decide))) (fun _ _ _ _ _ => qts_nil) (fun _ _ _ _ _ => (qe_callB (qc_abs) boot_abs (B "abs" (by decide)) (qa_cons (qe_callT (qc_int) boot_int (B "int" (by decide)) (qa_cons (qe_var (pv 1)) qa_nil)) qa_nil)))) qa_nil)))))))
abbrev s__law_take : Stmt := topS 56
abbrev N__law_take : List Str := ["box", "m", "at", "cell", "told"]
theorem sc__law_take : FnScope N__law_take ["box", "m"] (defScope s__law_take) := ⟨rfl, rfl, rfl, by decide +kernel, rfl, by decide +kernel, by decide +kernel⟩
def t__law_take : XS :=
  (wSeq (wIfS (wB (w2 (oEq false) (w2 oIx (wVar 0) (wC (.int 1))) (wC (.int 0)))) (wSeq (wSet 2 (w2 oIx (wVar 0) (wC (.int 2))))
  (wSeq (wSet 3 (wC (.int 0)))
  (wSeq (wIfS (wB (w2 (oLt) (wVar 2) (wCall (c1 oLen) (wCons (w2 oIx (wVar 0) (wC (.int 3))) wNil)))) (wSeq (wSet 3 (w2 oIx (w2 oIx (wVar 0) (wC (.int 3))) (wVar 2)))
  (wAsg (wIf (wB (w2 (oGe) (wVar 3) (w2 (oPow) (wC (.int 10)) (wC (.int 18))))) (wC (.int 60)) (w1 oNeg (wC (.int 9)))) (gSubX (wVar 0) (wC (.int 1))))) wNext)
  (wSeq (wAsg (w2 (oAdd false) (wVar 2) (wC (.int 1))) (gSubX (wVar 0) (wC (.int 2))))
  (wSeq (wAsg (wVar 3) (gSubX (wVar 0) (wC (.int 0))))
  (wIfS (wB (w2 (oEq false) (w2 oIx (wVar 0) (wC (.int 1))) (wC (.int 0)))) (wRet (wC (.int 0))) wNext)))))) wNext)
  (wSeq (wIfS (wB (w2 (oGt) (w2 oIx (wVar 0) (wC (.int 1))) (wC (.int 0)))) (wSeq (wSet 4 (w2 (oMod) (wCall (c1 oInt) (wCons (w2 oIx (wVar 0) (wC (.int 0))) wNil)) (wVar 1)))
  (wSeq (wAsg (w2 (oFdiv) (w2 oIx (wVar 0) (wC (.int 0))) (wVar 1)) (gSubX (wVar 0) (wC (.int 0))))
  (wSeq (wAsg (wIf (wB (w2 (oGt) (w2 oIx (wVar 0) (wC (.int 0))) (wC (.int 0)))) (w2 (oSub) (w2 oIx (wVar 0) (wC (.int 1))) (wC (.int 1))) (wC (.int 0))) (gSubX (wVar 0) (wC (.int 1))))
  (wRet (wVar 4))))) wNext)
  (wSeq (wAsg (w2 (oAdd false) (w2 oIx (wVar 0) (wC (.int 1))) (wC (.int 1))) (gSubX (wVar 0) (wC (.int 1))))
  (wSeq (wAsg (w2 (oMod) (wCall (c1 oInt) (wCons (w2 (oAdd false) (w2 (oMul false) (w2 oIx (wVar 0) (wC (.int 0))) (wC (.int 48271))) (w2 (oMul false) (wC (.int 69621)) (w2 (oAdd false) (w2 oIx (wVar 0) (wC (.int 1))) (wC (.int 20))))) wNil)) (wC (.int 2147483647))) (gSubX (wVar 0) (wC (.int 0))))
  (wRet (w2 (oMod) (w2 (oMod) (wCall (c1 oInt) (wCons (w2 (oAdd false) (w2 (oFdiv) (w2 oIx (wVar 0) (wC (.int 0))) (wC (.int 7))) (w2 oIx (wVar 0) (wC (.int 0)))) wNil)) (wC (.int 1000003))) (wVar 1)))))))
theorem q__law_take {P : Program} {w : World} {K : PySem.W.Frag} {mg : Str → Option Value} {base : Heap} (B : Blt mg bltNames) {f : Addr} {cdv : Value} {A : Around} {outer : List Env} {s : Shared} {H : Hp} {E : XK} (hr : Room 0 (A.deeper (envOfC "_law_take" (defScope s__law_take) s.heap.objs.size f cdv))) :
    QSs (cxOf CX0 P w K mg base N__law_take "_law_take" (defScope s__law_take) f cdv A outer s H E).nox (defBody s__law_take) (t__law_take) :=
  (qss_cons (qs_if (qt_cmp (qo_eq hr.u64) (qe_ix hr.u1 (qe_var (pv 0)) qe_int (fun _ _ => rfl)) qe_int (nomark _)) (qss_cons (qs_set (fun h => ps_set (i := 2) sc__law_take.nd rfl (.inl rfl) h) (qe_ix hr.u1 (qe_var (pv 0)) qe_int (fun _ _ => rfl)))
  (qss_cons (qs_set (fun h => ps_set (i := 3) sc__law_take.nd rfl (.inl rfl) h) qe_int)
  (qss_cons (qs_if (qt_cmp (qo_lt) (qe_var (pv 2)) (qe_callB (qc_len) PySem.boot_len (B "len" (by decide)) (qa_cons (qe_ix hr.u1 (qe_var (pv 0)) qe_int (fun _ _ => rfl)) qa_nil)) (nomark _)) (qss_cons (qs_set (fun h => ps_set (i := 3) sc__law_take.nd rfl (.inl rfl) h) (qe_ix hr.u1 (qe_ix hr.u1 (qe_var (pv 0)) qe_int (fun _ _ => rfl)) (qe_var (pv 2)) (fun _ _ => rfl)))
  (qss_one (qs_asg (qe_ifExp (qt_cmp (qo_ge) (qe_var (pv 3)) (qe_op (qo_pow) qe_int qe_int) (nomark _)) qe_int (qe_neg qe_int)) (qg_sub hr.u1 (qe_var (pv 0)) qe_int)))) qss_nil)
  (qss_cons (qs_asg (qe_op (qo_add false) (qe_var (pv 2)) qe_int) (qg_sub hr.u1 (qe_var (pv 0)) qe_int))
  (qss_cons (qs_asg (qe_var (pv 3)) (qg_sub hr.u1 (qe_var (pv 0)) qe_int))
  (qss_one (qs_if (qt_cmp (qo_eq hr.u64) (qe_ix hr.u1 (qe_var (pv 0)) qe_int (fun _ _ => rfl)) qe_int (nomark _)) (qss_one (qs_ret qe_int)) qss_nil))))))) qss_nil)
  (qss_cons (qs_if (qt_cmp (qo_gt) (qe_ix hr.u1 (qe_var (pv 0)) qe_int (fun _ _ => rfl)) qe_int (nomark _)) (qss_cons (qs_set (fun h => ps_set (i := 4) sc__law_take.nd rfl (.inl rfl) h) (qe_op (qo_mod) (qe_callT (qc_int) boot_int (B "int" (by decide)) (qa_cons (qe_ix hr.u1 (qe_var (pv 0)) qe_int (fun _ _ => rfl)) qa_nil)) (qe_var (pv 1))))
  (qss_cons (qs_asg (qe_op (qo_fdiv) (qe_ix hr.u1 (qe_var (pv 0)) qe_int (fun _ _ => rfl)) (qe_var (pv 1))) (qg_sub hr.u1 (qe_var (pv 0)) qe_int))
  (qss_cons (qs_asg (qe_ifExp (qt_cmp (qo_gt) (qe_ix hr.u1 (qe_var (pv 0)) qe_int (fun _ _ => rfl)) qe_int (nomark _)) (qe_op (qo_sub) (qe_ix hr.u1 (qe_var (pv 0)) qe_int (fun _ _ => rfl)) qe_int) qe_int) (qg_sub hr.u1 (qe_var (pv 0)) qe_int))
  (qss_one (qs_ret (qe_var (pv 4))))))) qss_nil)
  (qss_cons (qs_asg (qe_op (qo_add false) (qe_ix hr.u1 (qe_var (pv 0)) qe_int (fun _ _ => rfl)) qe_int) (qg_sub hr.u1 (qe_var (pv 0)) qe_int))
  (qss_cons (qs_asg (qe_op (qo_mod) (qe_callT (qc_int) boot_int (B "int" (by decide)) (qa_cons (qe_op (qo_add false) (qe_op (qo_mul false) (qe_ix hr.u1 (qe_var (pv 0)) qe_int (fun _ _ => rfl)) qe_int) (qe_op (qo_mul false) qe_int (qe_op (qo_add false) (qe_ix hr.u1 (qe_var (pv 0)) qe_int (fun _ _ => rfl)) qe_int))) qa_nil)) qe_int) (qg_sub hr.u1 (qe_var (pv 0)) qe_int))
  (qss_one (qs_ret (qe_op (qo_mod) (qe_op (qo_mod) (qe_callT (qc_int) boot_int (B "int" (by decide)) (qa_cons (qe_op (qo_add false) (qe_op (qo_fdiv) (qe_ix hr.u1 (qe_var (pv 0)) qe_int (fun _ _ => rfl)) qe_int) (qe_ix hr.u1 (qe_var (pv 0)) qe_int (fun _ _ => rfl))) qa_nil)) qe_int) (qe_var (pv 1)))))))))
abbrev s__law_pick : Stmt := topS 57
abbrev N__law_pick : List Str := ["box", "menu"]
theorem sc__law_pick : FnScope N__law_pick ["box", "menu"] (defScope s__law_pick) := ⟨rfl, rfl, rfl, by decide +kernel, rfl, by decide +kernel, by decide +kernel⟩
def t__law_pick : XS :=
  (wRet (w2 oIx (wVar 1) (wFn sp__law_take (wCons (wVar 0) (wCons (wCall (c1 oLen) (wCons (wVar 1) wNil)) wNil)))))
theorem q__law_pick {P : Program} {w : World} {K : PySem.W.Frag} {mg : Str → Option Value} {base : Heap} (B : Blt mg bltNames) (D__law_take : DefOk P w K mg base 1 "_law_take" ["box", "m"] sp__law_take) {f : Addr} {cdv : Value} {A : Around} {outer : List Env} {s : Shared} {H : Hp} {E : XK} (hr : Room 1 (A.deeper (envOfC "_law_pick" (defScope s__law_pick) s.heap.objs.size f cdv))) :
    QSs (cxOf CX0 P w K mg base N__law_pick "_law_pick" (defScope s__law_pick) f cdv A outer s H E).nox (defBody s__law_pick) (t__law_pick) :=
  (qss_one (qs_ret (qe_ix hr.u1 (qe_var (pv 1)) (qe_def D__law_take (hr.mono (by decide)) (qa_cons (qe_var (pv 0)) (qa_cons (qe_callB (qc_len) PySem.boot_len (B "len" (by decide)) (qa_cons (qe_var (pv 1)) qa_nil)) qa_nil))) (fun _ _ => rfl))))
abbrev s__law_whole : Stmt := topS 58
abbrev N__law_whole : List Str := ["x"]
theorem sc__law_whole : FnScope N__law_whole ["x"] (defScope s__law_whole) := ⟨rfl, rfl, rfl, by decide +kernel, rfl, by decide +kernel, by decide +kernel⟩
def t__law_whole : XS :=
  (wRet (wAndV (wCall (c2 (oIsi .int)) (wCons (wVar 0) (wCons (wC (.ty "int")) wNil))) (wNotV (wCall (c2 (oIsi .bool)) (wCons (wVar 0) (wCons (wC (.ty "bool")) wNil))))))
theorem q__law_whole {P : Program} {w : World} {K : PySem.W.Frag} {mg : Str → Option Value} {base : Heap} (B : Blt mg bltNames) {f : Addr} {cdv : Value} {A : Around} {outer : List Env} {s : Shared} {H : Hp} {E : XK} (hr : Room 0 (A.deeper (envOfC "_law_whole" (defScope s__law_whole) s.heap.objs.size f cdv))) :
    QSs (cxOf CX0 P w K mg base N__law_whole "_law_whole" (defScope s__law_whole) f cdv A outer s H E).nox (defBody s__law_whole) (t__law_whole) :=
  (qss_one (qs_ret (qe_and (qe_callB (qc_isi .int) boot_isinstance (B "isinstance" (by decide)) (qa_cons (qe_var (pv 0)) (qa_cons (qe_ty (B "int" (by decide)) boot_int) qa_nil))) (qe_one (qe_not (qe_callB (qc_isi .bool) boot_isinstance (B "isinstance" (by decide)) (qa_cons (qe_var (pv 0)) (qa_cons (qe_ty (B "bool" (by decide)) boot_bool) qa_nil))))))))
abbrev s__law_says : Stmt := topS 59
abbrev N__law_says : List Str := ["x", "due"]
theorem sc__law_says : FnScope N__law_says ["x", "due"] (defScope s__law_says) := ⟨rfl, rfl, rfl, by decide +kernel, rfl, by decide +kernel, by decide +kernel⟩
def t__law_says : XS :=
  (wRet (wAndV (wOrV (w2 (oIs false) (wVar 0) (wC (.bl true))) (w2 (oIs false) (wVar 0) (wC (.bl false)))) (w2 (oEq false) (wVar 0) (wVar 1))))
theorem q__law_says {P : Program} {w : World} {K : PySem.W.Frag} {mg : Str → Option Value} {base : Heap} (B : Blt mg bltNames) {f : Addr} {cdv : Value} {A : Around} {outer : List Env} {s : Shared} {H : Hp} {E : XK} (hr : Room 0 (A.deeper (envOfC "_law_says" (defScope s__law_says) s.heap.objs.size f cdv))) :
    QSs (cxOf CX0 P w K mg base N__law_says "_law_says" (defScope s__law_says) f cdv A outer s H E).nox (defBody s__law_says) (t__law_says) :=
  (qss_one (qs_ret (qe_and (qe_or (qe_cmp (qo_is) (qe_var (pv 0)) qe_bl (nomark _)) (qe_one (qe_cmp (qo_is) (qe_var (pv 0)) qe_bl (nomark _)))) (qe_one (qe_cmp (qo_eq hr.u64) (qe_var (pv 0)) (qe_var (pv 1)) (nomark _))))))
abbrev s__law_system : Stmt := topS 60
abbrev N__law_system : List Str := ["box", "most", "letters", "n", "arrows", "part", "x", "label", "y"]
theorem sc__law_system : FnScope N__law_system ["box", "most", "letters"] (defScope s__law_system) := ⟨rfl, rfl, rfl, by decide +kernel, rfl, by decide +kernel, by decide +kernel⟩
def t__law_system : XS :=
  (wSeq (wPar3 3 4 5 (wCons (w2 (oAdd false) (wC (.int 1)) (wFn sp__law_take (wCons (wVar 0) (wCons (wVar 1) wNil)))) (wCons (wLst true wNil) (wCons (w2 (oAdd false) (wC (.int 1)) (wFn sp__law_take (wCons (wVar 0) (wCons (wC (.int 4)) wNil)))) wNil))))
  (wSeq (wFor (xRng1 (wCons (wVar 3) wNil)) (gSet 6) (wFor (xSeq (wVar 2)) (gSet 7) (wFor (xRng1 (wCons (wVar 3) wNil)) (gSet 8) (wIfS (wAnd (wB (w2 (oLt) (wFn sp__law_take (wCons (wVar 0) (wCons (wC (.int 6)) wNil))) (wVar 5))) (wB (w2 (oEq false) (wFn sp__law_take (wCons (wVar 0) (wCons (wC (.int 2)) wNil))) (wC (.int 0))))) (wDrop (wMeth oAppend (wVar 4) (wCons (wTup (wCons (wVar 6) (wCons (wVar 7) (wCons (wVar 8) wNil)))) wNil))) wNext))))
  (wRet (wTup (wCons (wVar 3) (wCons (wCall (c1 oTuple) (wCons (wVar 4) wNil)) wNil))))))
theorem q__law_system {P : Program} {w : World} {K : PySem.W.Frag} {mg : Str → Option Value} {base : Heap} (B : Blt mg bltNames) (D__law_take : DefOk P w K mg base 1 "_law_take" ["box", "m"] sp__law_take) {f : Addr} {cdv : Value} {A : Around} {outer : List Env} {s : Shared} {H : Hp} {E : XK} (hr : Room 1 (A.deeper (envOfC "_law_system" (defScope s__law_system) s.heap.objs.size f cdv))) :
    QSs (cxOf CX0 P w K mg base N__law_system "_law_system" (defScope s__law_system) f cdv A outer s H E).nox (defBody s__law_system) (t__law_system) :=
  (qss_cons (qs_par3 (fun h => ps_par3 (i := 3) (j := 4) (l := 5) rfl sc__law_system.nd rfl rfl rfl  (by decide) (by decide) (by decide) rfl rfl rfl  h rfl) (qa_cons (qe_op (qo_add false) qe_int (qe_def D__law_take (hr.mono (by decide)) (qa_cons (qe_var (pv 0)) (qa_cons (qe_var (pv 1)) qa_nil)))) (qa_cons (qe_lst true qa_nil) (qa_cons (qe_op (qo_add false) qe_int (qe_def D__law_take (hr.mono (by decide)) (qa_cons (qe_var (pv 0)) (qa_cons qe_int qa_nil)))) qa_nil))))
  (qss_cons (qs_for PassesOwn.never rfl (qi_rng1 (B "range" (by decide)) (qa_cons (qe_var (pv 3)) qa_nil)) (qg_name (pg_name (i := 6) sc__law_system.nd rfl (.inl rfl))) (qss_one (qs_for PassesOwn.never rfl (qi_seq (qe_var (pv 2))) (qg_name (pg_name (i := 7) sc__law_system.nd rfl (.inl rfl))) (qss_one (qs_for PassesOwn.never rfl (qi_rng1 (B "range" (by decide)) (qa_cons (qe_var (pv 3)) qa_nil)) (qg_name (pg_name (i := 8) sc__law_system.nd rfl (.inl rfl))) (qss_one (qs_if (qt_w (qw_and (qt_cmp (qo_lt) (qe_def D__law_take (hr.mono (by decide)) (qa_cons (qe_var (pv 0)) (qa_cons qe_int qa_nil))) (qe_var (pv 5)) (nomark _)) (qw_and1 (qt_cmp (qo_eq hr.u64) (qe_def D__law_take (hr.mono (by decide)) (qa_cons (qe_var (pv 0)) (qa_cons qe_int qa_nil))) qe_int (nomark _))))) (qss_one (qs_expr (qe_meth PySem.F.slot_list_append PySem.F.type_list_append qm_append (qe_var (pv 4)) (qa_cons (qe_tup (qa_cons (qe_var (pv 6)) (qa_cons (qe_var (pv 7)) (qa_cons (qe_var (pv 8)) qa_nil)))) qa_nil)))) qss_nil)))))))
  (qss_one (qs_ret (qe_tup (qa_cons (qe_var (pv 3)) (qa_cons (qe_callT (qc_tuple) boot_tuple (B "tuple" (by decide)) (qa_cons (qe_var (pv 4)) qa_nil)) qa_nil)))))))
abbrev s__law_is_formula : Stmt := topS 61
abbrev N__law_is_formula : List Str := ["x", "letters", "part"]
theorem sc__law_is_formula : FnScope N__law_is_formula ["x", "letters"] (defScope s__law_is_formula) := ⟨rfl, rfl, rfl, by decide +kernel, rfl, by decide +kernel, by decide +kernel⟩
def t__law_is_formula (sp_rec : XSp) : XS :=
  (wSeq (wIfS (wOr (wNot (wTru (wCall (c2 (oIsi .tuple)) (wCons (wVar 0) (wCons (wC (.ty "tuple")) wNil))))) (wB (w2 (oEq false) (wCall (c1 oLen) (wCons (wVar 0) wNil)) (wC (.int 0))))) (wRet (wC (.bl false))) wNext)
  (wSeq (wIfS (wB (w2 (oEq false) (w2 oIx (wVar 0) (wC (.int 0))) (wC (.str "true")))) (wRet (w2 (oEq false) (wCall (c1 oLen) (wCons (wVar 0) wNil)) (wC (.int 1)))) wNext)
  (wSeq (wIfS (wB (w2 (oEq false) (w2 oIx (wVar 0) (wC (.int 0))) (wC (.str "not")))) (wRet (wAndV (w2 (oEq false) (wCall (c1 oLen) (wCons (wVar 0) wNil)) (wC (.int 2))) (wFn sp_rec (wCons (w2 oIx (wVar 0) (wC (.int 1))) (wCons (wVar 1) wNil))))) wNext)
  (wSeq (wIfS (wB (w2 (oEq false) (w2 oIx (wVar 0) (wC (.int 0))) (wC (.str "and")))) (wSeq (wIfS (wOr (wB (w2 (oEq true) (wCall (c1 oLen) (wCons (wVar 0) wNil)) (wC (.int 2)))) (wNot (wTru (wCall (c2 (oIsi .tuple)) (wCons (w2 oIx (wVar 0) (wC (.int 1))) (wCons (wC (.ty "tuple")) wNil)))))) (wRet (wC (.bl false))) wNext)
  (wRet (w2 (oEq false) (wLc false (xSeq (w2 oIx (wVar 0) (wC (.int 1)))) (gSet 2) (wNot (wTru (wFn sp_rec (wCons (wVar 2) (wCons (wVar 1) wNil))))) (wVar 2) [2]) (wLst false wNil)))) wNext)
  (wSeq (wIfS (wOr (wB (w2 (oEq true) (w2 oIx (wVar 0) (wC (.int 0))) (wC (.str "can")))) (wOr (wB (w2 (oEq true) (wCall (c1 oLen) (wCons (wVar 0) wNil)) (wC (.int 3)))) (wNot (wTru (wCall (c2 (oIsi .str)) (wCons (w2 oIx (wVar 0) (wC (.int 1))) (wCons (wC (.ty "str")) wNil))))))) (wRet (wC (.bl false))) wNext)
  (wRet (wAndV (w2 (oIn false) (w2 oIx (wVar 0) (wC (.int 1))) (wVar 1)) (wFn sp_rec (wCons (w2 oIx (wVar 0) (wC (.int 2))) (wCons (wVar 1) wNil))))))))))
theorem q__law_is_formula {P : Program} {w : World} {K : PySem.W.Frag} {mg : Str → Option Value} {base : Heap} {kr : Nat} (hkr : 0 ≤ kr) (B : Blt mg bltNames) (D__law_is_formula : DefOk P w K mg base kr "_law_is_formula" ["x", "letters"] sp_rec) {f : Addr} {cdv : Value} {A : Around} {outer : List Env} {s : Shared} {H : Hp} {E : XK} (hr : Room kr (A.deeper (envOfC "_law_is_formula" (defScope s__law_is_formula) s.heap.objs.size f cdv))) :
    QSs (cxOf CX0 P w K mg base N__law_is_formula "_law_is_formula" (defScope s__law_is_formula) f cdv A outer s H E).nox (defBody s__law_is_formula) (t__law_is_formula sp_rec) :=
  (qss_cons (qs_if (qt_w (qw_or (qt_not (qt_tru (qe_callB (qc_isi .tuple) boot_isinstance (B "isinstance" (by decide)) (qa_cons (qe_var (pv 0)) (qa_cons (qe_ty (B "tuple" (by decide)) boot_tuple) qa_nil))))) (qw_or1 (qt_cmp (qo_eq hr.u64) (qe_callB (qc_len) PySem.boot_len (B "len" (by decide)) (qa_cons (qe_var (pv 0)) qa_nil)) qe_int (nomark _))))) (qss_one (qs_ret qe_bl)) qss_nil)
  (qss_cons (qs_if (qt_cmp (qo_eq hr.u64) (qe_ix hr.u1 (qe_var (pv 0)) qe_int (fun _ _ => rfl)) qe_str (nomark _)) (qss_one (qs_ret (qe_cmp (qo_eq hr.u64) (qe_callB (qc_len) PySem.boot_len (B "len" (by decide)) (qa_cons (qe_var (pv 0)) qa_nil)) qe_int (nomark _)))) qss_nil)
  (qss_cons (qs_if (qt_cmp (qo_eq hr.u64) (qe_ix hr.u1 (qe_var (pv 0)) qe_int (fun _ _ => rfl)) qe_str (nomark _)) (qss_one (qs_ret (qe_and (qe_cmp (qo_eq hr.u64) (qe_callB (qc_len) PySem.boot_len (B "len" (by decide)) (qa_cons (qe_var (pv 0)) qa_nil)) qe_int (nomark _)) (qe_one (qe_def D__law_is_formula hr (qa_cons (qe_ix hr.u1 (qe_var (pv 0)) qe_int (fun _ _ => rfl)) (qa_cons (qe_var (pv 1)) qa_nil))))))) qss_nil)
  (qss_cons (qs_if (qt_cmp (qo_eq hr.u64) (qe_ix hr.u1 (qe_var (pv 0)) qe_int (fun _ _ => rfl)) qe_str (nomark _)) (qss_cons (qs_if (qt_w (qw_or (qt_cmp (qo_ne hr.u64) (qe_callB (qc_len) PySem.boot_len (B "len" (by decide)) (qa_cons (qe_var (pv 0)) qa_nil)) qe_int (nomark _)) (qw_or1 (qt_not (qt_tru (qe_callB (qc_isi .tuple) boot_isinstance (B "isinstance" (by decide)) (qa_cons (qe_ix hr.u1 (qe_var (pv 0)) qe_int (fun _ _ => rfl)) (qa_cons (qe_ty (B "tuple" (by decide)) boot_tuple) qa_nil)))))))) (qss_one (qs_ret qe_bl)) qss_nil)
  (qss_one (qs_ret (qe_cmp (qo_eq hr.u64) (qe_lc (own := [("part", 2)]) false rfl sc__law_is_formula.nd (qi_seq (qe_ix hr.u1 (qe_var (pv 0)) qe_int (fun _ _ => rfl))) (blkOk_by (N := N__law_is_formula) (sc := defScope s__law_is_formula) (by decide +kernel)) (fun _ _ _ _ _ => (qgw_name (pg_name (i := 2) sc__law_is_formula.nd rfl (.inl rfl)) (by decide))) (fun _ _ _ _ _ => (qts_one (qt_not (qt_tru (qe_def D__law_is_formula hr (qa_cons (qe_var (pv 2)) (qa_cons (qe_var (pv 1)) qa_nil))))))) (fun _ _ _ _ _ => (qe_var (pv 2)))) (qe_lst false qa_nil) (nomark _))))) qss_nil)
  (qss_cons (qs_if (qt_w (qw_or (qt_cmp (qo_ne hr.u64) (qe_ix hr.u1 (qe_var (pv 0)) qe_int (fun _ _ => rfl)) qe_str (nomark _)) (qw_or (qt_cmp (qo_ne hr.u64) (qe_callB (qc_len) PySem.boot_len (B "len" (by decide)) (qa_cons (qe_var (pv 0)) qa_nil)) qe_int (nomark _)) (qw_or1 (qt_not (qt_tru (qe_callB (qc_isi .str) boot_isinstance (B "isinstance" (by decide)) (qa_cons (qe_ix hr.u1 (qe_var (pv 0)) qe_int (fun _ _ => rfl)) (qa_cons (qe_ty (B "str" (by decide)) boot_str) qa_nil))))))))) (qss_one (qs_ret qe_bl)) qss_nil)
  (qss_one (qs_ret (qe_and (qe_cmp (qo_in hr.u66) (qe_ix hr.u1 (qe_var (pv 0)) qe_int (fun _ _ => rfl)) (qe_var (pv 1)) (by rfl)) (qe_one (qe_def D__law_is_formula hr (qa_cons (qe_ix hr.u1 (qe_var (pv 0)) qe_int (fun _ _ => rfl)) (qa_cons (qe_var (pv 1)) qa_nil))))))))))))
abbrev s__law_formula : Stmt := topS 62
abbrev N__law_formula : List Str := ["box", "deep", "letters", "names", "straight", "rounds", "sort", "k", "fitting", "many", "taken", "free", "inner_v", "way"]
theorem sc__law_formula : FnScope N__law_formula ["box", "deep", "letters", "names", "straight", "rounds"] (defScope s__law_formula) := ⟨rfl, rfl, rfl, by decide +kernel, rfl, by decide +kernel, by decide +kernel⟩
def t__law_formula (sp_rec : XSp) : XS :=
  (wSeq (wSet 6 (wFn sp__law_take (wCons (wVar 0) (wCons (wIf (wB (w2 (oGt) (wVar 1) (wC (.int 0)))) (wC (.int 8)) (wC (.int 2))) wNil))))
  (wSeq (wSet 8 (wLc false (xSeq (wVar 3)) (gTupX 2 (gConsX (gSet 7) (gConsX (gSet 13) gNilX))) (wB (w2 (oEq false) (wVar 13) (wVar 4))) (wVar 7) [7, 13]))
  (wSeq (wIfS (wB (w2 (oLt) (wVar 6) (wC (.int 2)))) (wRet (wIf (wAnd (wB (w2 (oEq true) (wVar 8) (wLst false wNil))) (wB (w2 (oGt) (wFn sp__law_take (wCons (wVar 0) (wCons (wC (.int 4)) wNil))) (wC (.int 0))))) (wTup (wCons (wC (.str "name")) (wCons (wFn sp__law_pick (wCons (wVar 0) (wCons (wVar 8) wNil))) wNil))) (wTup (wCons (wC (.str "true")) wNil)))) wNext)
  (wSeq (wIfS (wB (w2 (oEq false) (wVar 6) (wC (.int 2)))) (wRet (wTup (wCons (wC (.str "not")) (wCons (wFn sp_rec (wCons (wVar 0) (wCons (w2 (oSub) (wVar 1) (wC (.int 1))) (wCons (wVar 2) (wCons (wVar 3) (wCons (wNotV (wVar 4)) (wCons (wVar 5) wNil))))))) wNil)))) wNext)
  (wSeq (wIfS (wB (w2 (oEq false) (wVar 6) (wC (.int 3)))) (wSeq (wSet 9 (wFn sp__law_take (wCons (wVar 0) (wCons (wC (.int 4)) wNil))))
  (wRet (wTup (wCons (wC (.str "and")) (wCons (wCall (c1 oTuple) (wCons (wLc false (xRng1 (wCons (wVar 9) wNil)) (gSet 7) wYes (wFn sp_rec (wCons (wVar 0) (wCons (w2 (oSub) (wVar 1) (wC (.int 1))) (wCons (wVar 2) (wCons (wVar 3) (wCons (wVar 4) (wCons (wVar 5) wNil))))))) [7]) wNil)) wNil))))) wNext)
  (wSeq (wSet 10 (wLc false (xSeq (wVar 3)) (gTupX 2 (gConsX (gSet 7) (gConsX (gSet 13) gNilX))) wYes (wVar 7) [7, 13]))
  (wSeq (wSet 11 (wLc false (xRng1 (wCons (wC (.int 6)) wNil)) (gSet 7) (wB (w2 (oIn true) (wVar 7) (wVar 10))) (wVar 7) [7]))
  (wSeq (wIfS (wOr (wB (w2 (oLt) (wVar 6) (wC (.int 6)))) (wOr (wNot (wTru (wVar 5))) (wB (w2 (oEq false) (wVar 11) (wLst false wNil))))) (wRet (wTup (wCons (wC (.str "can")) (wCons (wFn sp__law_pick (wCons (wVar 0) (wCons (wVar 2) wNil))) (wCons (wFn sp_rec (wCons (wVar 0) (wCons (w2 (oSub) (wVar 1) (wC (.int 1))) (wCons (wVar 2) (wCons (wVar 3) (wCons (wVar 4) (wCons (wVar 5) wNil))))))) wNil))))) wNext)
  (wSeq (wSet 7 (wFn sp__law_pick (wCons (wVar 0) (wCons (wVar 11) wNil))))
  (wSeq (wSet 12 (wFn sp_rec (wCons (wVar 0) (wCons (w2 (oSub) (wVar 1) (wC (.int 1))) (wCons (wVar 2) (wCons (w2 (oAdd false) (wVar 3) (wLst false (wCons (wTup (wCons (wVar 7) (wCons (wVar 4) wNil))) wNil))) (wCons (wVar 4) (wCons (wVar 5) wNil))))))))
  (wRet (wTup (wCons (wFn sp__law_pick (wCons (wVar 0) (wCons (wLst false (wCons (wC (.str "least")) (wCons (wC (.str "most")) wNil))) wNil))) (wCons (wVar 7) (wCons (wVar 12) wNil)))))))))))))))
theorem q__law_formula {P : Program} {w : World} {K : PySem.W.Frag} {mg : Str → Option Value} {base : Heap} {kr : Nat} (hkr : 2 ≤ kr) (B : Blt mg bltNames) (D__law_take : DefOk P w K mg base 1 "_law_take" ["box", "m"] sp__law_take) (D__law_pick : DefOk P w K mg base 2 "_law_pick" ["box", "menu"] sp__law_pick) (D__law_formula : DefOk P w K mg base kr "_law_formula" ["box", "deep", "letters", "names", "straight", "rounds"] sp_rec) {f : Addr} {cdv : Value} {A : Around} {outer : List Env} {s : Shared} {H : Hp} {E : XK} (hr : Room kr (A.deeper (envOfC "_law_formula" (defScope s__law_formula) s.heap.objs.size f cdv))) :
    QSs (cxOf CX0 P w K mg base N__law_formula "_law_formula" (defScope s__law_formula) f cdv A outer s H E).nox (defBody s__law_formula) (t__law_formula sp_rec) :=
  (qss_cons (qs_set (fun h => ps_set (i := 6) sc__law_formula.nd rfl (.inl rfl) h) (qe_def D__law_take (hr.mono (Nat.le_trans (by decide) hkr)) (qa_cons (qe_var (pv 0)) (qa_cons (qe_ifExp (qt_cmp (qo_gt) (qe_var (pv 1)) qe_int (nomark _)) qe_int qe_int) qa_nil))))
  (qss_cons (qs_setLc (i := 8) (own := [("k", 7), ("way", 13)]) false rfl sc__law_formula.nd rfl rfl (sw_true rfl rfl rfl (by decide +kernel)) (qi_seq (qe_var (pv 3))) (blkOk_by (N := N__law_formula) (sc := defScope s__law_formula) (by decide +kernel)) (fun _ _ _ _ _ => (qgw_tup rfl (qgsw_cons (qgw_name (pg_name (i := 7) sc__law_formula.nd rfl (.inl rfl)) (by decide)) (qgsw_cons (qgw_name (pg_name (i := 13) sc__law_formula.nd rfl (.inl rfl)) (by decide)) qgsw_nil)))) (fun _ _ _ _ _ => (qts_one (qt_cmp (qo_eq hr.u64) (qe_var (pv 13)) (qe_var (pv 4)) (nomark _)))) (fun _ _ _ _ _ => (qe_var (pv 7))))
  (qss_cons (qs_if (qt_cmp (qo_lt) (qe_var (pv 6)) qe_int (nomark _)) (qss_one (qs_ret (qe_ifExp (qt_w (qw_and (qt_cmp (qo_ne hr.u64) (qe_var (pv 8)) (qe_lst false qa_nil) (nomark _)) (qw_and1 (qt_cmp (qo_gt) (qe_def D__law_take (hr.mono (Nat.le_trans (by decide) hkr)) (qa_cons (qe_var (pv 0)) (qa_cons qe_int qa_nil))) qe_int (nomark _))))) (qe_tup (qa_cons qe_str (qa_cons (qe_def D__law_pick (hr.mono (Nat.le_trans (by decide) hkr)) (qa_cons (qe_var (pv 0)) (qa_cons (qe_var (pv 8)) qa_nil))) qa_nil))) (qe_tup (qa_cons qe_str qa_nil))))) qss_nil)
  (qss_cons (qs_if (qt_cmp (qo_eq hr.u64) (qe_var (pv 6)) qe_int (nomark _)) (qss_one (qs_ret (qe_tup (qa_cons qe_str (qa_cons (qe_def D__law_formula hr (qa_cons (qe_var (pv 0)) (qa_cons (qe_op (qo_sub) (qe_var (pv 1)) qe_int) (qa_cons (qe_var (pv 2)) (qa_cons (qe_var (pv 3)) (qa_cons (qe_not (qe_var (pv 4))) (qa_cons (qe_var (pv 5)) qa_nil))))))) qa_nil))))) qss_nil)
  (qss_cons (qs_if (qt_cmp (qo_eq hr.u64) (qe_var (pv 6)) qe_int (nomark _)) (qss_cons (qs_set (fun h => ps_set (i := 9) sc__law_formula.nd rfl (.inl rfl) h) (qe_def D__law_take (hr.mono (Nat.le_trans (by decide) hkr)) (qa_cons (qe_var (pv 0)) (qa_cons qe_int qa_nil))))
  (qss_one (qs_ret (qe_tup (qa_cons qe_str (qa_cons (qe_callT (qc_tuple) boot_tuple (B "tuple" (by decide)) (qa_cons (qe_lc (own := [("k", 7)]) false rfl sc__law_formula.nd (qi_rng1 (B "range" (by decide)) (qa_cons (qe_var (pv 9)) qa_nil)) (blkOk_by (N := N__law_formula) (sc := defScope s__law_formula) (by decide +kernel)) (fun _ _ _ _ _ => (qgw_name (pg_name (i := 7) sc__law_formula.nd rfl (.inl rfl)) (by decide))) (fun _ _ _ _ _ => qts_nil) (fun _ _ _ _ _ => (qe_def D__law_formula hr (qa_cons (qe_var (pv 0)) (qa_cons (qe_op (qo_sub) (qe_var (pv 1)) qe_int) (qa_cons (qe_var (pv 2)) (qa_cons (qe_var (pv 3)) (qa_cons (qe_var (pv 4)) (qa_cons (qe_var (pv 5)) qa_nil))))))))) qa_nil)) qa_nil)))))) qss_nil)
  (qss_cons (qs_set (fun h => ps_set (i := 10) sc__law_formula.nd rfl (.inr rfl) h) (qe_lc (own := [("k", 7), ("way", 13)]) false rfl sc__law_formula.nd (qi_seq (qe_var (pv 3))) (blkOk_by (N := N__law_formula) (sc := defScope s__law_formula) (by decide +kernel)) (fun _ _ _ _ _ => (qgw_tup rfl (qgsw_cons (qgw_name (pg_name (i := 7) sc__law_formula.nd rfl (.inl rfl)) (by decide)) (qgsw_cons (qgw_name (pg_name (i := 13) sc__law_formula.nd rfl (.inl rfl)) (by decide)) qgsw_nil)))) (fun _ _ _ _ _ => qts_nil) (fun _ _ _ _ _ => (qe_var (pv 7)))))
  (qss_cons (qs_setLc (i := 11) (own := [("k", 7)]) false rfl sc__law_formula.nd rfl rfl (sw_true rfl rfl rfl (by decide +kernel)) (qi_rng1 (B "range" (by decide)) (qa_cons qe_int qa_nil)) (blkOk_by (N := N__law_formula) (sc := defScope s__law_formula) (by decide +kernel)) (fun _ _ _ _ _ => (qgw_name (pg_name (i := 7) sc__law_formula.nd rfl (.inl rfl)) (by decide))) (fun _ _ _ _ _ => (qts_one (qt_cmp (qo_notIn hr.u66) (qe_var (pv 7)) (qe_var (pv 10)) (by rfl)))) (fun _ _ _ _ _ => (qe_var (pv 7))))
  (qss_cons (qs_if (qt_w (qw_or (qt_cmp (qo_lt) (qe_var (pv 6)) qe_int (nomark _)) (qw_or (qt_not (qt_tru (qe_var (pv 5)))) (qw_or1 (qt_cmp (qo_eq hr.u64) (qe_var (pv 11)) (qe_lst false qa_nil) (nomark _)))))) (qss_one (qs_ret (qe_tup (qa_cons qe_str (qa_cons (qe_def D__law_pick (hr.mono (Nat.le_trans (by decide) hkr)) (qa_cons (qe_var (pv 0)) (qa_cons (qe_var (pv 2)) qa_nil))) (qa_cons (qe_def D__law_formula hr (qa_cons (qe_var (pv 0)) (qa_cons (qe_op (qo_sub) (qe_var (pv 1)) qe_int) (qa_cons (qe_var (pv 2)) (qa_cons (qe_var (pv 3)) (qa_cons (qe_var (pv 4)) (qa_cons (qe_var (pv 5)) qa_nil))))))) qa_nil)))))) qss_nil)
  (qss_cons (qs_set (fun h => ps_set (i := 7) sc__law_formula.nd rfl (.inl rfl) h) (qe_def D__law_pick (hr.mono (Nat.le_trans (by decide) hkr)) (qa_cons (qe_var (pv 0)) (qa_cons (qe_var (pv 11)) qa_nil))))
  (qss_cons (qs_set (fun h => ps_set (i := 12) sc__law_formula.nd rfl (.inl rfl) h) (qe_def D__law_formula hr (qa_cons (qe_var (pv 0)) (qa_cons (qe_op (qo_sub) (qe_var (pv 1)) qe_int) (qa_cons (qe_var (pv 2)) (qa_cons (qe_op (qo_add false) (qe_var (pv 3)) (qe_lst false (qa_cons (qe_tup (qa_cons (qe_var (pv 7)) (qa_cons (qe_var (pv 4)) qa_nil))) qa_nil))) (qa_cons (qe_var (pv 4)) (qa_cons (qe_var (pv 5)) qa_nil))))))))
  (qss_one (qs_ret (qe_tup (qa_cons (qe_def D__law_pick (hr.mono (Nat.le_trans (by decide) hkr)) (qa_cons (qe_var (pv 0)) (qa_cons (qe_lst false (qa_cons qe_str (qa_cons qe_str qa_nil))) qa_nil))) (qa_cons (qe_var (pv 7)) (qa_cons (qe_var (pv 12)) qa_nil))))))))))))))))
abbrev s__law_refusal : Stmt := topS 63
abbrev N__law_refusal : List Str := ["call"]
theorem sc__law_refusal : FnScope N__law_refusal ["call"] (defScope s__law_refusal) := ⟨rfl, rfl, rfl, by decide +kernel, rfl, by decide +kernel, by decide +kernel⟩
abbrev s__law_is_sentence : Stmt := topS 64
abbrev N__law_is_sentence : List Str := ["x", "one"]
theorem sc__law_is_sentence : FnScope N__law_is_sentence ["x"] (defScope s__law_is_sentence) := ⟨rfl, rfl, rfl, by decide +kernel, rfl, by decide +kernel, by decide +kernel⟩
def t__law_is_sentence (sp_rec : XSp) : XS :=
  (wSeq (wIfS (wOr (wNot (wTru (wCall (c2 (oIsi .tuple)) (wCons (wVar 0) (wCons (wC (.ty "tuple")) wNil))))) (wOr (wB (w2 (oEq false) (wCall (c1 oLen) (wCons (wVar 0) wNil)) (wC (.int 0)))) (wNot (wTru (wCall (c2 (oIsi .str)) (wCons (w2 oIx (wVar 0) (wC (.int 0))) (wCons (wC (.ty "str")) wNil))))))) (wRet (wC (.bl false))) wNext)
  (wSeq (wIfS (wB (w2 (oIn false) (w2 oIx (wVar 0) (wC (.int 0))) (wTup (wCons (wC (.str "same")) (wCons (wC (.str "tied")) wNil))))) (wRet (wAndV (w2 (oEq false) (wCall (c1 oLen) (wCons (wVar 0) wNil)) (wC (.int 3))) (w2 (oEq false) (wLc false (xSeq (wSl false (wVar 0) (wPart (wC (.int 1))) wNoPart)) (gSet 1) (wOr (wNot (wTru (wFn sp__law_whole (wCons (wVar 1) wNil)))) (wB (w2 (oLt) (wVar 1) (wC (.int 0))))) (wVar 1) [1]) (wLst false wNil)))) wNext)
  (wSeq (wIfS (wB (w2 (oIn false) (w2 oIx (wVar 0) (wC (.int 0))) (wTup (wCons (wC (.str "not")) (wCons (wC (.str "some")) wNil))))) (wRet (wAndV (w2 (oEq false) (wCall (c1 oLen) (wCons (wVar 0) wNil)) (wC (.int 2))) (wFn sp_rec (wCons (w2 oIx (wVar 0) (wC (.int 1))) wNil)))) wNext)
  (wSeq (wIfS (wOr (wB (w2 (oEq true) (w2 oIx (wVar 0) (wC (.int 0))) (wC (.str "and")))) (wOr (wB (w2 (oEq true) (wCall (c1 oLen) (wCons (wVar 0) wNil)) (wC (.int 2)))) (wNot (wTru (wCall (c2 (oIsi .tuple)) (wCons (w2 oIx (wVar 0) (wC (.int 1))) (wCons (wC (.ty "tuple")) wNil))))))) (wRet (wC (.bl false))) wNext)
  (wRet (w2 (oEq false) (wLc false (xSeq (w2 oIx (wVar 0) (wC (.int 1)))) (gSet 1) (wNot (wTru (wFn sp_rec (wCons (wVar 1) wNil)))) (wVar 1) [1]) (wLst false wNil)))))))
theorem q__law_is_sentence {P : Program} {w : World} {K : PySem.W.Frag} {mg : Str → Option Value} {base : Heap} {kr : Nat} (hkr : 1 ≤ kr) (B : Blt mg bltNames) (D__law_whole : DefOk P w K mg base 1 "_law_whole" ["x"] sp__law_whole) (D__law_is_sentence : DefOk P w K mg base kr "_law_is_sentence" ["x"] sp_rec) {f : Addr} {cdv : Value} {A : Around} {outer : List Env} {s : Shared} {H : Hp} {E : XK} (hr : Room kr (A.deeper (envOfC "_law_is_sentence" (defScope s__law_is_sentence) s.heap.objs.size f cdv))) :
    QSs (cxOf CX0 P w K mg base N__law_is_sentence "_law_is_sentence" (defScope s__law_is_sentence) f cdv A outer s H E).nox (defBody s__law_is_sentence) (t__law_is_sentence sp_rec) :=
  (qss_cons (qs_if (qt_w (qw_or (qt_not (qt_tru (qe_callB (qc_isi .tuple) boot_isinstance (B "isinstance" (by decide)) (qa_cons (qe_var (pv 0)) (qa_cons (qe_ty (B "tuple" (by decide)) boot_tuple) qa_nil))))) (qw_or (qt_cmp (qo_eq hr.u64) (qe_callB (qc_len) PySem.boot_len (B "len" (by decide)) (qa_cons (qe_var (pv 0)) qa_nil)) qe_int (nomark _)) (qw_or1 (qt_not (qt_tru (qe_callB (qc_isi .str) boot_isinstance (B "isinstance" (by decide)) (qa_cons (qe_ix hr.u1 (qe_var (pv 0)) qe_int (fun _ _ => rfl)) (qa_cons (qe_ty (B "str" (by decide)) boot_str) qa_nil))))))))) (qss_one (qs_ret qe_bl)) qss_nil)
  (qss_cons (qs_if (qt_cmp (qo_in hr.u66) (qe_ix hr.u1 (qe_var (pv 0)) qe_int (fun _ _ => rfl)) (qe_tup (qa_cons qe_str (qa_cons qe_str qa_nil))) (by rfl)) (qss_one (qs_ret (qe_and (qe_cmp (qo_eq hr.u64) (qe_callB (qc_len) PySem.boot_len (B "len" (by decide)) (qa_cons (qe_var (pv 0)) qa_nil)) qe_int (nomark _)) (qe_one (qe_cmp (qo_eq hr.u64) (qe_lc (own := [("one", 1)]) false rfl sc__law_is_sentence.nd (qi_seq (qe_slice false (qe_var (pv 0)) (qp_some qe_int) qp_none)) (blkOk_by (N := N__law_is_sentence) (sc := defScope s__law_is_sentence) (by decide +kernel)) (fun _ _ _ _ _ => (qgw_name (pg_name (i := 1) sc__law_is_sentence.nd rfl (.inl rfl)) (by decide))) (fun _ _ _ _ _ => (qts_one (qt_w (qw_or (qt_not (qt_tru (qe_def D__law_whole (hr.mono (Nat.le_trans (by decide) hkr)) (qa_cons (qe_var (pv 1)) qa_nil)))) (qw_or1 (qt_cmp (qo_lt) (qe_var (pv 1)) qe_int (nomark _))))))) (fun _ _ _ _ _ => (qe_var (pv 1)))) (qe_lst false qa_nil) (nomark _)))))) qss_nil)
  (qss_cons (qs_if (qt_cmp (qo_in hr.u66) (qe_ix hr.u1 (qe_var (pv 0)) qe_int (fun _ _ => rfl)) (qe_tup (qa_cons qe_str (qa_cons qe_str qa_nil))) (by rfl)) (qss_one (qs_ret (qe_and (qe_cmp (qo_eq hr.u64) (qe_callB (qc_len) PySem.boot_len (B "len" (by decide)) (qa_cons (qe_var (pv 0)) qa_nil)) qe_int (nomark _)) (qe_one (qe_def D__law_is_sentence hr (qa_cons (qe_ix hr.u1 (qe_var (pv 0)) qe_int (fun _ _ => rfl)) qa_nil)))))) qss_nil)
  (qss_cons (qs_if (qt_w (qw_or (qt_cmp (qo_ne hr.u64) (qe_ix hr.u1 (qe_var (pv 0)) qe_int (fun _ _ => rfl)) qe_str (nomark _)) (qw_or (qt_cmp (qo_ne hr.u64) (qe_callB (qc_len) PySem.boot_len (B "len" (by decide)) (qa_cons (qe_var (pv 0)) qa_nil)) qe_int (nomark _)) (qw_or1 (qt_not (qt_tru (qe_callB (qc_isi .tuple) boot_isinstance (B "isinstance" (by decide)) (qa_cons (qe_ix hr.u1 (qe_var (pv 0)) qe_int (fun _ _ => rfl)) (qa_cons (qe_ty (B "tuple" (by decide)) boot_tuple) qa_nil))))))))) (qss_one (qs_ret qe_bl)) qss_nil)
  (qss_one (qs_ret (qe_cmp (qo_eq hr.u64) (qe_lc (own := [("one", 1)]) false rfl sc__law_is_sentence.nd (qi_seq (qe_ix hr.u1 (qe_var (pv 0)) qe_int (fun _ _ => rfl))) (blkOk_by (N := N__law_is_sentence) (sc := defScope s__law_is_sentence) (by decide +kernel)) (fun _ _ _ _ _ => (qgw_name (pg_name (i := 1) sc__law_is_sentence.nd rfl (.inl rfl)) (by decide))) (fun _ _ _ _ _ => (qts_one (qt_not (qt_tru (qe_def D__law_is_sentence hr (qa_cons (qe_var (pv 1)) qa_nil)))))) (fun _ _ _ _ _ => (qe_var (pv 1)))) (qe_lst false qa_nil) (nomark _))))))))
abbrev s__law_sentence : Stmt := topS 65
abbrev N__law_sentence : List Str := ["box", "deep", "many", "sort", "end", "k"]
theorem sc__law_sentence : FnScope N__law_sentence ["box", "deep", "many"] (defScope s__law_sentence) := ⟨rfl, rfl, rfl, by decide +kernel, rfl, by decide +kernel, by decide +kernel⟩
def t__law_sentence (sp_rec : XSp) : XS :=
  (wSeq (wSet 3 (wFn sp__law_take (wCons (wVar 0) (wCons (wIf (wB (w2 (oGt) (wVar 1) (wC (.int 0)))) (wC (.int 7)) (wC (.int 2))) wNil))))
  (wSeq (wIfS (wB (w2 (oLt) (wVar 3) (wC (.int 2)))) (wSeq (wSet 4 (wIf (wB (w2 (oEq false) (wFn sp__law_take (wCons (wVar 0) (wCons (wC (.int 6)) wNil))) (wC (.int 0)))) (w2 (oAdd false) (wVar 2) (wC (.int 1))) (wCall (c2 oMax2) (wCons (wC (.int 1)) (wCons (wVar 2) wNil)))))
  (wRet (wTup (wCons (wFn sp__law_pick (wCons (wVar 0) (wCons (wLst false (wCons (wC (.str "same")) (wCons (wC (.str "tied")) wNil))) wNil))) (wCons (wFn sp__law_take (wCons (wVar 0) (wCons (wVar 4) wNil))) (wCons (wFn sp__law_take (wCons (wVar 0) (wCons (wCall (c2 oMax2) (wCons (wC (.int 1)) (wCons (wVar 2) wNil))) wNil))) wNil)))))) wNext)
  (wSeq (wIfS (wB (w2 (oEq false) (wVar 3) (wC (.int 2)))) (wRet (wTup (wCons (wC (.str "not")) (wCons (wFn sp_rec (wCons (wVar 0) (wCons (w2 (oSub) (wVar 1) (wC (.int 1))) (wCons (wVar 2) wNil)))) wNil)))) wNext)
  (wSeq (wIfS (wB (w2 (oEq false) (wVar 3) (wC (.int 3)))) (wRet (wTup (wCons (wC (.str "and")) (wCons (wCall (c1 oTuple) (wCons (wLc false (xRng1 (wCons (wFn sp__law_take (wCons (wVar 0) (wCons (wC (.int 4)) wNil))) wNil)) (gSet 5) wYes (wFn sp_rec (wCons (wVar 0) (wCons (w2 (oSub) (wVar 1) (wC (.int 1))) (wCons (wVar 2) wNil)))) [5]) wNil)) wNil)))) wNext)
  (wRet (wTup (wCons (wC (.str "some")) (wCons (wFn sp_rec (wCons (wVar 0) (wCons (w2 (oSub) (wVar 1) (wC (.int 1))) (wCons (w2 (oAdd false) (wVar 2) (wC (.int 1))) wNil)))) wNil))))))))
theorem q__law_sentence {P : Program} {w : World} {K : PySem.W.Frag} {mg : Str → Option Value} {base : Heap} {kr : Nat} (hkr : 2 ≤ kr) (B : Blt mg bltNames) (D__law_take : DefOk P w K mg base 1 "_law_take" ["box", "m"] sp__law_take) (D__law_pick : DefOk P w K mg base 2 "_law_pick" ["box", "menu"] sp__law_pick) (D__law_sentence : DefOk P w K mg base kr "_law_sentence" ["box", "deep", "many"] sp_rec) {f : Addr} {cdv : Value} {A : Around} {outer : List Env} {s : Shared} {H : Hp} {E : XK} (hr : Room kr (A.deeper (envOfC "_law_sentence" (defScope s__law_sentence) s.heap.objs.size f cdv))) :
    QSs (cxOf CX0 P w K mg base N__law_sentence "_law_sentence" (defScope s__law_sentence) f cdv A outer s H E).nox (defBody s__law_sentence) (t__law_sentence sp_rec) :=
  (qss_cons (qs_set (fun h => ps_set (i := 3) sc__law_sentence.nd rfl (.inl rfl) h) (qe_def D__law_take (hr.mono (Nat.le_trans (by decide) hkr)) (qa_cons (qe_var (pv 0)) (qa_cons (qe_ifExp (qt_cmp (qo_gt) (qe_var (pv 1)) qe_int (nomark _)) qe_int qe_int) qa_nil))))
  (qss_cons (qs_if (qt_cmp (qo_lt) (qe_var (pv 3)) qe_int (nomark _)) (qss_cons (qs_set (fun h => ps_set (i := 4) sc__law_sentence.nd rfl (.inl rfl) h) (qe_ifExp (qt_cmp (qo_eq hr.u64) (qe_def D__law_take (hr.mono (Nat.le_trans (by decide) hkr)) (qa_cons (qe_var (pv 0)) (qa_cons qe_int qa_nil))) qe_int (nomark _)) (qe_op (qo_add false) (qe_var (pv 2)) qe_int) (qe_callB (qc_max2 rfl) boot_max (B "max" (by decide)) (qa_cons qe_int (qa_cons (qe_var (pv 2)) qa_nil)))))
  (qss_one (qs_ret (qe_tup (qa_cons (qe_def D__law_pick (hr.mono (Nat.le_trans (by decide) hkr)) (qa_cons (qe_var (pv 0)) (qa_cons (qe_lst false (qa_cons qe_str (qa_cons qe_str qa_nil))) qa_nil))) (qa_cons (qe_def D__law_take (hr.mono (Nat.le_trans (by decide) hkr)) (qa_cons (qe_var (pv 0)) (qa_cons (qe_var (pv 4)) qa_nil))) (qa_cons (qe_def D__law_take (hr.mono (Nat.le_trans (by decide) hkr)) (qa_cons (qe_var (pv 0)) (qa_cons (qe_callB (qc_max2 rfl) boot_max (B "max" (by decide)) (qa_cons qe_int (qa_cons (qe_var (pv 2)) qa_nil))) qa_nil))) qa_nil))))))) qss_nil)
  (qss_cons (qs_if (qt_cmp (qo_eq hr.u64) (qe_var (pv 3)) qe_int (nomark _)) (qss_one (qs_ret (qe_tup (qa_cons qe_str (qa_cons (qe_def D__law_sentence hr (qa_cons (qe_var (pv 0)) (qa_cons (qe_op (qo_sub) (qe_var (pv 1)) qe_int) (qa_cons (qe_var (pv 2)) qa_nil)))) qa_nil))))) qss_nil)
  (qss_cons (qs_if (qt_cmp (qo_eq hr.u64) (qe_var (pv 3)) qe_int (nomark _)) (qss_one (qs_ret (qe_tup (qa_cons qe_str (qa_cons (qe_callT (qc_tuple) boot_tuple (B "tuple" (by decide)) (qa_cons (qe_lc (own := [("k", 5)]) false rfl sc__law_sentence.nd (qi_rng1 (B "range" (by decide)) (qa_cons (qe_def D__law_take (hr.mono (Nat.le_trans (by decide) hkr)) (qa_cons (qe_var (pv 0)) (qa_cons qe_int qa_nil))) qa_nil)) (blkOk_by (N := N__law_sentence) (sc := defScope s__law_sentence) (by decide +kernel)) (fun _ _ _ _ _ => (qgw_name (pg_name (i := 5) sc__law_sentence.nd rfl (.inl rfl)) (by decide))) (fun _ _ _ _ _ => qts_nil) (fun _ _ _ _ _ => (qe_def D__law_sentence hr (qa_cons (qe_var (pv 0)) (qa_cons (qe_op (qo_sub) (qe_var (pv 1)) qe_int) (qa_cons (qe_var (pv 2)) qa_nil)))))) qa_nil)) qa_nil))))) qss_nil)
  (qss_one (qs_ret (qe_tup (qa_cons qe_str (qa_cons (qe_def D__law_sentence hr (qa_cons (qe_var (pv 0)) (qa_cons (qe_op (qo_sub) (qe_var (pv 1)) qe_int) (qa_cons (qe_op (qo_add false) (qe_var (pv 2)) qe_int) qa_nil)))) qa_nil)))))))))
abbrev s__law_odd : Stmt := topS 66
abbrev N__law_odd : List Str := ["box", "depth_v", "sort", "menu", "k"]
theorem sc__law_odd : FnScope N__law_odd ["box", "depth_v"] (defScope s__law_odd) := ⟨rfl, rfl, rfl, by decide +kernel, rfl, by decide +kernel, by decide +kernel⟩
def t__law_odd (sp_rec : XSp) : XS :=
  (wSeq (wSet 2 (wFn sp__law_take (wCons (wVar 0) (wCons (wIf (wB (w2 (oGt) (wVar 1) (wC (.int 0)))) (wC (.int 9)) (wC (.int 6))) wNil))))
  (wSeq (wIfS (wB (w2 (oEq false) (wVar 2) (wC (.int 0)))) (wSeq (wSet 3 (wLst false (wCons (wC .non) (wCons (wC (.bl true)) (wCons (wC (.bl false)) (wCons (wC (.str "")) (wCons (wC (.str "true")) (wCons (wC (.str "not")) (wCons (wC (.str "and")) (wCons (wC (.str "can")) (wCons (wC (.str "a")) (wCons (wC (.str "name")) (wCons (wC (.str "least")) (wCons (wC (.str "most")) (wCons (wC (.str "same")) (wCons (wC (.str "some")) wNil))))))))))))))))
  (wRet (wFn sp__law_pick (wCons (wVar 0) (wCons (wVar 3) wNil))))) wNext)
  (wSeq (wIfS (wB (w2 (oLt) (wVar 2) (wC (.int 6)))) (wRet (w2 (oSub) (wFn sp__law_take (wCons (wVar 0) (wCons (wC (.int 8)) wNil))) (wC (.int 1)))) wNext)
  (wRet (wCall (c1 oTuple) (wCons (wLc false (xRng1 (wCons (wFn sp__law_take (wCons (wVar 0) (wCons (wC (.int 4)) wNil))) wNil)) (gSet 4) wYes (wFn sp_rec (wCons (wVar 0) (wCons (w2 (oSub) (wVar 1) (wC (.int 1))) wNil))) [4]) wNil))))))
theorem q__law_odd {P : Program} {w : World} {K : PySem.W.Frag} {mg : Str → Option Value} {base : Heap} {kr : Nat} (hkr : 2 ≤ kr) (B : Blt mg bltNames) (D__law_take : DefOk P w K mg base 1 "_law_take" ["box", "m"] sp__law_take) (D__law_pick : DefOk P w K mg base 2 "_law_pick" ["box", "menu"] sp__law_pick) (D__law_odd : DefOk P w K mg base kr "_law_odd" ["box", "depth_v"] sp_rec) {f : Addr} {cdv : Value} {A : Around} {outer : List Env} {s : Shared} {H : Hp} {E : XK} (hr : Room kr (A.deeper (envOfC "_law_odd" (defScope s__law_odd) s.heap.objs.size f cdv))) :
    QSs (cxOf CX0 P w K mg base N__law_odd "_law_odd" (defScope s__law_odd) f cdv A outer s H E).nox (defBody s__law_odd) (t__law_odd sp_rec) :=
  (qss_cons (qs_set (fun h => ps_set (i := 2) sc__law_odd.nd rfl (.inl rfl) h) (qe_def D__law_take (hr.mono (Nat.le_trans (by decide) hkr)) (qa_cons (qe_var (pv 0)) (qa_cons (qe_ifExp (qt_cmp (qo_gt) (qe_var (pv 1)) qe_int (nomark _)) qe_int qe_int) qa_nil))))
  (qss_cons (qs_if (qt_cmp (qo_eq hr.u64) (qe_var (pv 2)) qe_int (nomark _)) (qss_cons (qs_set (fun h => ps_set (i := 3) sc__law_odd.nd rfl (.inl rfl) h) (qe_lst false (qa_cons qe_non (qa_cons qe_bl (qa_cons qe_bl (qa_cons qe_str (qa_cons qe_str (qa_cons qe_str (qa_cons qe_str (qa_cons qe_str (qa_cons qe_str (qa_cons qe_str (qa_cons qe_str (qa_cons qe_str (qa_cons qe_str (qa_cons qe_str qa_nil))))))))))))))))
  (qss_one (qs_ret (qe_def D__law_pick (hr.mono (Nat.le_trans (by decide) hkr)) (qa_cons (qe_var (pv 0)) (qa_cons (qe_var (pv 3)) qa_nil)))))) qss_nil)
  (qss_cons (qs_if (qt_cmp (qo_lt) (qe_var (pv 2)) qe_int (nomark _)) (qss_one (qs_ret (qe_op (qo_sub) (qe_def D__law_take (hr.mono (Nat.le_trans (by decide) hkr)) (qa_cons (qe_var (pv 0)) (qa_cons qe_int qa_nil))) qe_int))) qss_nil)
  (qss_one (qs_ret (qe_callT (qc_tuple) boot_tuple (B "tuple" (by decide)) (qa_cons (qe_lc (own := [("k", 4)]) false rfl sc__law_odd.nd (qi_rng1 (B "range" (by decide)) (qa_cons (qe_def D__law_take (hr.mono (Nat.le_trans (by decide) hkr)) (qa_cons (qe_var (pv 0)) (qa_cons qe_int qa_nil))) qa_nil)) (blkOk_by (N := N__law_odd) (sc := defScope s__law_odd) (by decide +kernel)) (fun _ _ _ _ _ => (qgw_name (pg_name (i := 4) sc__law_odd.nd rfl (.inl rfl)) (by decide))) (fun _ _ _ _ _ => qts_nil) (fun _ _ _ _ _ => (qe_def D__law_odd hr (qa_cons (qe_var (pv 0)) (qa_cons (qe_op (qo_sub) (qe_var (pv 1)) qe_int) qa_nil))))) qa_nil)))))))
abbrev s__law_turned : Stmt := topS 67
abbrev N__law_turned : List Str := ["box", "told", "depth_v", "at", "sort"]
theorem sc__law_turned : FnScope N__law_turned ["box", "told", "depth_v"] (defScope s__law_turned) := ⟨rfl, rfl, rfl, by decide +kernel, rfl, by decide +kernel, by decide +kernel⟩
def t__law_turned (sp_rec : XSp) : XS :=
  (wSeq (wIfS (wOr (wNot (wTru (wCall (c2 (oIsi .tuple)) (wCons (wVar 1) (wCons (wC (.ty "tuple")) wNil))))) (wOr (wB (w2 (oEq false) (wCall (c1 oLen) (wCons (wVar 1) wNil)) (wC (.int 0)))) (wOr (wB (w2 (oEq false) (wVar 2) (wC (.int 0)))) (wB (w2 (oEq false) (wFn sp__law_take (wCons (wVar 0) (wCons (wC (.int 8)) wNil))) (wC (.int 7))))))) (wRet (wFn sp__law_odd (wCons (wVar 0) (wCons (wC (.int 2)) wNil)))) wNext)
  (wSeq (wSet 3 (wFn sp__law_take (wCons (wVar 0) (wCons (wCall (c1 oLen) (wCons (wVar 1) wNil)) wNil))))
  (wSeq (wSet 4 (wFn sp__law_take (wCons (wVar 0) (wCons (wC (.int 8)) wNil))))
  (wSeq (wIfS (wB (w2 (oEq false) (wVar 4) (wC (.int 1)))) (wRet (w2 (oAdd false) (wSl false (wVar 1) wNoPart (wPart (wVar 3))) (wSl false (wVar 1) (wPart (w2 (oAdd false) (wVar 3) (wC (.int 1)))) wNoPart))) wNext)
  (wSeq (wIfS (wB (w2 (oEq false) (wVar 4) (wC (.int 2)))) (wRet (w2 (oAdd false) (wSl false (wVar 1) wNoPart (wPart (w2 (oAdd false) (wVar 3) (wC (.int 1))))) (wSl false (wVar 1) (wPart (wVar 3)) wNoPart))) wNext)
  (wSeq (wIfS (wB (w2 (oEq false) (wVar 4) (wC (.int 3)))) (wRet (w2 (oAdd false) (wSl false (wVar 1) (wPart (wVar 3)) wNoPart) (wSl false (wVar 1) wNoPart (wPart (wVar 3))))) wNext)
  (wRet (w2 (oAdd false) (w2 (oAdd false) (wSl false (wVar 1) wNoPart (wPart (wVar 3))) (wTup (wCons (wFn sp_rec (wCons (wVar 0) (wCons (w2 oIx (wVar 1) (wVar 3)) (wCons (w2 (oSub) (wVar 2) (wC (.int 1))) wNil)))) wNil))) (wSl false (wVar 1) (wPart (w2 (oAdd false) (wVar 3) (wC (.int 1)))) wNoPart)))))))))
theorem q__law_turned {P : Program} {w : World} {K : PySem.W.Frag} {mg : Str → Option Value} {base : Heap} {kr : Nat} (hkr : 26 ≤ kr) (B : Blt mg bltNames) (D__law_take : DefOk P w K mg base 1 "_law_take" ["box", "m"] sp__law_take) (D__law_odd : DefOk P w K mg base 26 "_law_odd" ["box", "depth_v"] sp__law_odd) (D__law_turned : DefOk P w K mg base kr "_law_turned" ["box", "told", "depth_v"] sp_rec) {f : Addr} {cdv : Value} {A : Around} {outer : List Env} {s : Shared} {H : Hp} {E : XK} (hr : Room kr (A.deeper (envOfC "_law_turned" (defScope s__law_turned) s.heap.objs.size f cdv))) :
    QSs (cxOf CX0 P w K mg base N__law_turned "_law_turned" (defScope s__law_turned) f cdv A outer s H E).nox (defBody s__law_turned) (t__law_turned sp_rec) :=
  (qss_cons (qs_if (qt_w (qw_or (qt_not (qt_tru (qe_callB (qc_isi .tuple) boot_isinstance (B "isinstance" (by decide)) (qa_cons (qe_var (pv 1)) (qa_cons (qe_ty (B "tuple" (by decide)) boot_tuple) qa_nil))))) (qw_or (qt_cmp (qo_eq hr.u64) (qe_callB (qc_len) PySem.boot_len (B "len" (by decide)) (qa_cons (qe_var (pv 1)) qa_nil)) qe_int (nomark _)) (qw_or (qt_cmp (qo_eq hr.u64) (qe_var (pv 2)) qe_int (nomark _)) (qw_or1 (qt_cmp (qo_eq hr.u64) (qe_def D__law_take (hr.mono (Nat.le_trans (by decide) hkr)) (qa_cons (qe_var (pv 0)) (qa_cons qe_int qa_nil))) qe_int (nomark _))))))) (qss_one (qs_ret (qe_def D__law_odd (hr.mono (Nat.le_trans (by decide) hkr)) (qa_cons (qe_var (pv 0)) (qa_cons qe_int qa_nil))))) qss_nil)
  (qss_cons (qs_set (fun h => ps_set (i := 3) sc__law_turned.nd rfl (.inl rfl) h) (qe_def D__law_take (hr.mono (Nat.le_trans (by decide) hkr)) (qa_cons (qe_var (pv 0)) (qa_cons (qe_callB (qc_len) PySem.boot_len (B "len" (by decide)) (qa_cons (qe_var (pv 1)) qa_nil)) qa_nil))))
  (qss_cons (qs_set (fun h => ps_set (i := 4) sc__law_turned.nd rfl (.inl rfl) h) (qe_def D__law_take (hr.mono (Nat.le_trans (by decide) hkr)) (qa_cons (qe_var (pv 0)) (qa_cons qe_int qa_nil))))
  (qss_cons (qs_if (qt_cmp (qo_eq hr.u64) (qe_var (pv 4)) qe_int (nomark _)) (qss_one (qs_ret (qe_op (qo_add false) (qe_slice false (qe_var (pv 1)) qp_none (qp_some (qe_var (pv 3)))) (qe_slice false (qe_var (pv 1)) (qp_some (qe_op (qo_add false) (qe_var (pv 3)) qe_int)) qp_none)))) qss_nil)
  (qss_cons (qs_if (qt_cmp (qo_eq hr.u64) (qe_var (pv 4)) qe_int (nomark _)) (qss_one (qs_ret (qe_op (qo_add false) (qe_slice false (qe_var (pv 1)) qp_none (qp_some (qe_op (qo_add false) (qe_var (pv 3)) qe_int))) (qe_slice false (qe_var (pv 1)) (qp_some (qe_var (pv 3))) qp_none)))) qss_nil)
  (qss_cons (qs_if (qt_cmp (qo_eq hr.u64) (qe_var (pv 4)) qe_int (nomark _)) (qss_one (qs_ret (qe_op (qo_add false) (qe_slice false (qe_var (pv 1)) (qp_some (qe_var (pv 3))) qp_none) (qe_slice false (qe_var (pv 1)) qp_none (qp_some (qe_var (pv 3))))))) qss_nil)
  (qss_one (qs_ret (qe_op (qo_add false) (qe_op (qo_add false) (qe_slice false (qe_var (pv 1)) qp_none (qp_some (qe_var (pv 3)))) (qe_tup (qa_cons (qe_def D__law_turned hr (qa_cons (qe_var (pv 0)) (qa_cons (qe_ix hr.u1 (qe_var (pv 1)) (qe_var (pv 3)) (fun _ _ => rfl)) (qa_cons (qe_op (qo_sub) (qe_var (pv 2)) qe_int) qa_nil)))) qa_nil))) (qe_slice false (qe_var (pv 1)) (qp_some (qe_op (qo_add false) (qe_var (pv 3)) qe_int)) qp_none))))))))))
abbrev s__law_is_wide : Stmt := topS 68
abbrev N__law_is_wide : List Str := ["x", "letters", "bound", "straight", "k", "way", "part"]
theorem sc__law_is_wide : FnScope N__law_is_wide ["x", "letters", "bound", "straight"] (defScope s__law_is_wide) := ⟨rfl, rfl, rfl, by decide +kernel, rfl, by decide +kernel, by decide +kernel⟩
def t__law_is_wide (sp_rec : XSp) : XS :=
  (wSeq (wIfS (wOr (wNot (wTru (wCall (c2 (oIsi .tuple)) (wCons (wVar 0) (wCons (wC (.ty "tuple")) wNil))))) (wOr (wB (w2 (oEq false) (wCall (c1 oLen) (wCons (wVar 0) wNil)) (wC (.int 0)))) (wNot (wTru (wCall (c2 (oIsi .str)) (wCons (w2 oIx (wVar 0) (wC (.int 0))) (wCons (wC (.ty "str")) wNil))))))) (wRet (wC (.bl false))) wNext)
  (wSeq (wIfS (wB (w2 (oEq false) (w2 oIx (wVar 0) (wC (.int 0))) (wC (.str "true")))) (wRet (w2 (oEq false) (wCall (c1 oLen) (wCons (wVar 0) wNil)) (wC (.int 1)))) wNext)
  (wSeq (wIfS (wB (w2 (oEq false) (w2 oIx (wVar 0) (wC (.int 0))) (wC (.str "not")))) (wRet (wAndV (w2 (oEq false) (wCall (c1 oLen) (wCons (wVar 0) wNil)) (wC (.int 2))) (wFn sp_rec (wCons (w2 oIx (wVar 0) (wC (.int 1))) (wCons (wVar 1) (wCons (wVar 2) (wCons (wNotV (wVar 3)) wNil))))))) wNext)
  (wSeq (wIfS (wB (w2 (oEq false) (w2 oIx (wVar 0) (wC (.int 0))) (wC (.str "and")))) (wSeq (wIfS (wOr (wB (w2 (oEq true) (wCall (c1 oLen) (wCons (wVar 0) wNil)) (wC (.int 2)))) (wNot (wTru (wCall (c2 (oIsi .tuple)) (wCons (w2 oIx (wVar 0) (wC (.int 1))) (wCons (wC (.ty "tuple")) wNil)))))) (wRet (wC (.bl false))) wNext)
  (wRet (w2 (oEq false) (wLc false (xSeq (w2 oIx (wVar 0) (wC (.int 1)))) (gSet 6) (wNot (wTru (wFn sp_rec (wCons (wVar 6) (wCons (wVar 1) (wCons (wVar 2) (wCons (wVar 3) wNil))))))) (wVar 6) [6]) (wLst false wNil)))) wNext)
  (wSeq (wIfS (wB (w2 (oEq false) (w2 oIx (wVar 0) (wC (.int 0))) (wC (.str "can")))) (wSeq (wIfS (wOr (wB (w2 (oEq true) (wCall (c1 oLen) (wCons (wVar 0) wNil)) (wC (.int 3)))) (wNot (wTru (wCall (c2 (oIsi .str)) (wCons (w2 oIx (wVar 0) (wC (.int 1))) (wCons (wC (.ty "str")) wNil)))))) (wRet (wC (.bl false))) wNext)
  (wRet (wAndV (w2 (oIn false) (w2 oIx (wVar 0) (wC (.int 1))) (wVar 1)) (wFn sp_rec (wCons (w2 oIx (wVar 0) (wC (.int 2))) (wCons (wVar 1) (wCons (wVar 2) (wCons (wVar 3) wNil)))))))) wNext)
  (wSeq (wIfS (wB (w2 (oEq false) (w2 oIx (wVar 0) (wC (.int 0))) (wC (.str "name")))) (wRet (wAndV (w2 (oEq false) (wCall (c1 oLen) (wCons (wVar 0) wNil)) (wC (.int 2))) (wAndV (wFn sp__law_whole (wCons (w2 oIx (wVar 0) (wC (.int 1))) wNil)) (w2 (oEq false) (wLc false (xSeq (wVar 2)) (gTupX 2 (gConsX (gSet 4) (gConsX (gSet 5) gNilX))) (wB (w2 (oEq false) (wVar 4) (w2 oIx (wVar 0) (wC (.int 1))))) (wVar 5) [4, 5]) (wLst false (wCons (wVar 3) wNil)))))) wNext)
  (wSeq (wIfS (wOr (wB (w2 (oIn true) (w2 oIx (wVar 0) (wC (.int 0))) (wTup (wCons (wC (.str "least")) (wCons (wC (.str "most")) wNil))))) (wOr (wB (w2 (oEq true) (wCall (c1 oLen) (wCons (wVar 0) wNil)) (wC (.int 3)))) (wOr (wNot (wTru (wFn sp__law_whole (wCons (w2 oIx (wVar 0) (wC (.int 1))) wNil)))) (wNot (wB (wChain (oLe) (oLe) (wC (.int 0)) (w2 oIx (wVar 0) (wC (.int 1))) (wC (.int 5)))))))) (wRet (wC (.bl false))) wNext)
  (wSeq (wIfS (wB (w2 (oEq true) (wLc false (xSeq (wVar 2)) (gTupX 2 (gConsX (gSet 4) (gConsX (gSet 5) gNilX))) (wB (w2 (oEq false) (wVar 4) (w2 oIx (wVar 0) (wC (.int 1))))) (wVar 5) [4, 5]) (wLst false wNil))) (wRet (wC (.bl false))) wNext)
  (wRet (wFn sp_rec (wCons (w2 oIx (wVar 0) (wC (.int 2))) (wCons (wVar 1) (wCons (w2 (oAdd false) (wVar 2) (wLst false (wCons (wTup (wCons (w2 oIx (wVar 0) (wC (.int 1))) (wCons (wVar 3) wNil))) wNil))) (wCons (wVar 3) wNil))))))))))))))
theorem q__law_is_wide {P : Program} {w : World} {K : PySem.W.Frag} {mg : Str → Option Value} {base : Heap} {kr : Nat} (hkr : 1 ≤ kr) (B : Blt mg bltNames) (D__law_is_wide : DefOk P w K mg base kr "_law_is_wide" ["x", "letters", "bound", "straight"] sp_rec) (D__law_whole : DefOk P w K mg base 1 "_law_whole" ["x"] sp__law_whole) {f : Addr} {cdv : Value} {A : Around} {outer : List Env} {s : Shared} {H : Hp} {E : XK} (hr : Room kr (A.deeper (envOfC "_law_is_wide" (defScope s__law_is_wide) s.heap.objs.size f cdv))) :
    QSs (cxOf CX0 P w K mg base N__law_is_wide "_law_is_wide" (defScope s__law_is_wide) f cdv A outer s H E).nox (defBody s__law_is_wide) (t__law_is_wide sp_rec) :=
  (qss_cons (qs_if (qt_w (qw_or (qt_not (qt_tru (qe_callB (qc_isi .tuple) boot_isinstance (B "isinstance" (by decide)) (qa_cons (qe_var (pv 0)) (qa_cons (qe_ty (B "tuple" (by decide)) boot_tuple) qa_nil))))) (qw_or (qt_cmp (qo_eq hr.u64) (qe_callB (qc_len) PySem.boot_len (B "len" (by decide)) (qa_cons (qe_var (pv 0)) qa_nil)) qe_int (nomark _)) (qw_or1 (qt_not (qt_tru (qe_callB (qc_isi .str) boot_isinstance (B "isinstance" (by decide)) (qa_cons (qe_ix hr.u1 (qe_var (pv 0)) qe_int (fun _ _ => rfl)) (qa_cons (qe_ty (B "str" (by decide)) boot_str) qa_nil))))))))) (qss_one (qs_ret qe_bl)) qss_nil)
  (qss_cons (qs_if (qt_cmp (qo_eq hr.u64) (qe_ix hr.u1 (qe_var (pv 0)) qe_int (fun _ _ => rfl)) qe_str (nomark _)) (qss_one (qs_ret (qe_cmp (qo_eq hr.u64) (qe_callB (qc_len) PySem.boot_len (B "len" (by decide)) (qa_cons (qe_var (pv 0)) qa_nil)) qe_int (nomark _)))) qss_nil)
  (qss_cons (qs_if (qt_cmp (qo_eq hr.u64) (qe_ix hr.u1 (qe_var (pv 0)) qe_int (fun _ _ => rfl)) qe_str (nomark _)) (qss_one (qs_ret (qe_and (qe_cmp (qo_eq hr.u64) (qe_callB (qc_len) PySem.boot_len (B "len" (by decide)) (qa_cons (qe_var (pv 0)) qa_nil)) qe_int (nomark _)) (qe_one (qe_def D__law_is_wide hr (qa_cons (qe_ix hr.u1 (qe_var (pv 0)) qe_int (fun _ _ => rfl)) (qa_cons (qe_var (pv 1)) (qa_cons (qe_var (pv 2)) (qa_cons (qe_not (qe_var (pv 3))) qa_nil))))))))) qss_nil)
  (qss_cons (qs_if (qt_cmp (qo_eq hr.u64) (qe_ix hr.u1 (qe_var (pv 0)) qe_int (fun _ _ => rfl)) qe_str (nomark _)) (qss_cons (qs_if (qt_w (qw_or (qt_cmp (qo_ne hr.u64) (qe_callB (qc_len) PySem.boot_len (B "len" (by decide)) (qa_cons (qe_var (pv 0)) qa_nil)) qe_int (nomark _)) (qw_or1 (qt_not (qt_tru (qe_callB (qc_isi .tuple) boot_isinstance (B "isinstance" (by decide)) (qa_cons (qe_ix hr.u1 (qe_var (pv 0)) qe_int (fun _ _ => rfl)) (qa_cons (qe_ty (B "tuple" (by decide)) boot_tuple) qa_nil)))))))) (qss_one (qs_ret qe_bl)) qss_nil)
  (qss_one (qs_ret (qe_cmp (qo_eq hr.u64) (qe_lc (own := [("part", 6)]) false rfl sc__law_is_wide.nd (qi_seq (qe_ix hr.u1 (qe_var (pv 0)) qe_int (fun _ _ => rfl))) (blkOk_by (N := N__law_is_wide) (sc := defScope s__law_is_wide) (by decide +kernel)) (fun _ _ _ _ _ => (qgw_name (pg_name (i := 6) sc__law_is_wide.nd rfl (.inl rfl)) (by decide))) (fun _ _ _ _ _ => (qts_one (qt_not (qt_tru (qe_def D__law_is_wide hr (qa_cons (qe_var (pv 6)) (qa_cons (qe_var (pv 1)) (qa_cons (qe_var (pv 2)) (qa_cons (qe_var (pv 3)) qa_nil))))))))) (fun _ _ _ _ _ => (qe_var (pv 6)))) (qe_lst false qa_nil) (nomark _))))) qss_nil)
  (qss_cons (qs_if (qt_cmp (qo_eq hr.u64) (qe_ix hr.u1 (qe_var (pv 0)) qe_int (fun _ _ => rfl)) qe_str (nomark _)) (qss_cons (qs_if (qt_w (qw_or (qt_cmp (qo_ne hr.u64) (qe_callB (qc_len) PySem.boot_len (B "len" (by decide)) (qa_cons (qe_var (pv 0)) qa_nil)) qe_int (nomark _)) (qw_or1 (qt_not (qt_tru (qe_callB (qc_isi .str) boot_isinstance (B "isinstance" (by decide)) (qa_cons (qe_ix hr.u1 (qe_var (pv 0)) qe_int (fun _ _ => rfl)) (qa_cons (qe_ty (B "str" (by decide)) boot_str) qa_nil)))))))) (qss_one (qs_ret qe_bl)) qss_nil)
  (qss_one (qs_ret (qe_and (qe_cmp (qo_in hr.u66) (qe_ix hr.u1 (qe_var (pv 0)) qe_int (fun _ _ => rfl)) (qe_var (pv 1)) (by rfl)) (qe_one (qe_def D__law_is_wide hr (qa_cons (qe_ix hr.u1 (qe_var (pv 0)) qe_int (fun _ _ => rfl)) (qa_cons (qe_var (pv 1)) (qa_cons (qe_var (pv 2)) (qa_cons (qe_var (pv 3)) qa_nil)))))))))) qss_nil)
  (qss_cons (qs_if (qt_cmp (qo_eq hr.u64) (qe_ix hr.u1 (qe_var (pv 0)) qe_int (fun _ _ => rfl)) qe_str (nomark _)) (qss_one (qs_ret (qe_and (qe_cmp (qo_eq hr.u64) (qe_callB (qc_len) PySem.boot_len (B "len" (by decide)) (qa_cons (qe_var (pv 0)) qa_nil)) qe_int (nomark _)) (qe_and (qe_def D__law_whole (hr.mono (Nat.le_trans (by decide) hkr)) (qa_cons (qe_ix hr.u1 (qe_var (pv 0)) qe_int (fun _ _ => rfl)) qa_nil)) (qe_one (qe_cmp (qo_eq hr.u64) (qe_lc (own := [("k", 4), ("way", 5)]) false rfl sc__law_is_wide.nd (qi_seq (qe_var (pv 2))) (blkOk_by (N := N__law_is_wide) (sc := defScope s__law_is_wide) (by decide +kernel)) (fun _ _ _ _ _ => (qgw_tup rfl (qgsw_cons (qgw_name (pg_name (i := 4) sc__law_is_wide.nd rfl (.inl rfl)) (by decide)) (qgsw_cons (qgw_name (pg_name (i := 5) sc__law_is_wide.nd rfl (.inl rfl)) (by decide)) qgsw_nil)))) (fun _ _ _ _ _ => (qts_one (qt_cmp (qo_eq hr.u64) (qe_var (pv 4)) (qe_ix hr.u1 (qe_var (pv 0)) qe_int (fun _ _ => rfl)) (nomark _)))) (fun _ _ _ _ _ => (qe_var (pv 5)))) (qe_lst false (qa_cons (qe_var (pv 3)) qa_nil)) (nomark _))))))) qss_nil)
  (qss_cons (qs_if (qt_w (qw_or (qt_cmp (qo_notIn hr.u66) (qe_ix hr.u1 (qe_var (pv 0)) qe_int (fun _ _ => rfl)) (qe_tup (qa_cons qe_str (qa_cons qe_str qa_nil))) (by rfl)) (qw_or (qt_cmp (qo_ne hr.u64) (qe_callB (qc_len) PySem.boot_len (B "len" (by decide)) (qa_cons (qe_var (pv 0)) qa_nil)) qe_int (nomark _)) (qw_or (qt_not (qt_tru (qe_def D__law_whole (hr.mono (Nat.le_trans (by decide) hkr)) (qa_cons (qe_ix hr.u1 (qe_var (pv 0)) qe_int (fun _ _ => rfl)) qa_nil)))) (qw_or1 (qt_not (qt_chain (qo_le) (qo_le) qe_int (qe_ix hr.u1 (qe_var (pv 0)) qe_int (fun _ _ => rfl)) qe_int))))))) (qss_one (qs_ret qe_bl)) qss_nil)
  (qss_cons (qs_if (qt_cmp (qo_ne hr.u64) (qe_lc (own := [("k", 4), ("way", 5)]) false rfl sc__law_is_wide.nd (qi_seq (qe_var (pv 2))) (blkOk_by (N := N__law_is_wide) (sc := defScope s__law_is_wide) (by decide +kernel)) (fun _ _ _ _ _ => (qgw_tup rfl (qgsw_cons (qgw_name (pg_name (i := 4) sc__law_is_wide.nd rfl (.inl rfl)) (by decide)) (qgsw_cons (qgw_name (pg_name (i := 5) sc__law_is_wide.nd rfl (.inl rfl)) (by decide)) qgsw_nil)))) (fun _ _ _ _ _ => (qts_one (qt_cmp (qo_eq hr.u64) (qe_var (pv 4)) (qe_ix hr.u1 (qe_var (pv 0)) qe_int (fun _ _ => rfl)) (nomark _)))) (fun _ _ _ _ _ => (qe_var (pv 5)))) (qe_lst false qa_nil) (nomark _)) (qss_one (qs_ret qe_bl)) qss_nil)
  (qss_one (qs_ret (qe_def D__law_is_wide hr (qa_cons (qe_ix hr.u1 (qe_var (pv 0)) qe_int (fun _ _ => rfl)) (qa_cons (qe_var (pv 1)) (qa_cons (qe_op (qo_add false) (qe_var (pv 2)) (qe_lst false (qa_cons (qe_tup (qa_cons (qe_ix hr.u1 (qe_var (pv 0)) qe_int (fun _ _ => rfl)) (qa_cons (qe_var (pv 3)) qa_nil))) qa_nil))) (qa_cons (qe_var (pv 3)) qa_nil)))))))))))))))
abbrev s__law_is_system : Stmt := topS 69
abbrev N__law_is_system : List Str := ["x", "arrow", "k"]
theorem sc__law_is_system : FnScope N__law_is_system ["x"] (defScope s__law_is_system) := ⟨rfl, rfl, rfl, by decide +kernel, rfl, by decide +kernel, by decide +kernel⟩
def t__law_is_system : XS :=
  (wSeq (wIfS (wOr (wNot (wTru (wCall (c2 (oIsi .tuple)) (wCons (wVar 0) (wCons (wC (.ty "tuple")) wNil))))) (wOr (wB (w2 (oEq true) (wCall (c1 oLen) (wCons (wVar 0) wNil)) (wC (.int 2)))) (wOr (wNot (wTru (wFn sp__law_whole (wCons (w2 oIx (wVar 0) (wC (.int 0))) wNil)))) (wNot (wB (wChain (oLeS) (oLeS) (wC (.int 1)) (w2 oIx (wVar 0) (wC (.int 0))) (wC (.int 12)))))))) (wRet (wC (.bl false))) wNext)
  (wSeq (wIfS (wNot (wTru (wCall (c2 (oIsi .tuple)) (wCons (w2 oIx (wVar 0) (wC (.int 1))) (wCons (wC (.ty "tuple")) wNil))))) (wRet (wC (.bl false))) wNext)
  (wSeq (wFor (xSeq (w2 oIx (wVar 0) (wC (.int 1)))) (gSet 1) (wSeq (wIfS (wOr (wNot (wTru (wCall (c2 (oIsi .tuple)) (wCons (wVar 1) (wCons (wC (.ty "tuple")) wNil))))) (wOr (wB (w2 (oEq true) (wCall (c1 oLen) (wCons (wVar 1) wNil)) (wC (.int 3)))) (wOr (wNot (wTru (wCall (c2 (oIsi .str)) (wCons (w2 oIx (wVar 1) (wC (.int 1))) (wCons (wC (.ty "str")) wNil))))) (wB (w2 (oEq true) (wCall (c1 oLen) (wCons (w2 oIx (wVar 1) (wC (.int 1))) wNil)) (wC (.int 1))))))) (wRet (wC (.bl false))) wNext)
  (wSeq (wIfS (wOr (wNot (wB (wChain (oLeS) (oLeS) (wC (.str "a")) (w2 oIx (wVar 1) (wC (.int 1))) (wC (.str "e"))))) (wOr (wNot (wTru (wFn sp__law_whole (wCons (w2 oIx (wVar 1) (wC (.int 0))) wNil)))) (wNot (wTru (wFn sp__law_whole (wCons (w2 oIx (wVar 1) (wC (.int 2))) wNil)))))) (wRet (wC (.bl false))) wNext)
  (wIfS (wOr (wNot (wB (wChain (oLeS) (oLtM) (wC (.int 0)) (w2 oIx (wVar 1) (wC (.int 0))) (w2 oIx (wVar 0) (wC (.int 0)))))) (wNot (wB (wChain (oLeS) (oLtM) (wC (.int 0)) (w2 oIx (wVar 1) (wC (.int 2))) (w2 oIx (wVar 0) (wC (.int 0))))))) (wRet (wC (.bl false))) wNext))))
  (wRet (w2 (oEq false) (wLc false (xRng1 (wCons (w2 (oSub) (wCall (c1 oLen) (wCons (w2 oIx (wVar 0) (wC (.int 1))) wNil)) (wC (.int 1))) wNil)) (gSet 2) (wNot (wB (w2 (oLtM) (w2 oIx (w2 oIx (wVar 0) (wC (.int 1))) (wVar 2)) (w2 oIx (w2 oIx (wVar 0) (wC (.int 1))) (w2 (oAdd false) (wVar 2) (wC (.int 1))))))) (wVar 2) [2]) (wLst false wNil))))))
theorem q__law_is_system {P : Program} {w : World} {K : PySem.W.Frag} {mg : Str → Option Value} {base : Heap} (B : Blt mg bltNames) (D__law_whole : DefOk P w K mg base 1 "_law_whole" ["x"] sp__law_whole) {f : Addr} {cdv : Value} {A : Around} {outer : List Env} {s : Shared} {H : Hp} {E : XK} (hr : Room 1 (A.deeper (envOfC "_law_is_system" (defScope s__law_is_system) s.heap.objs.size f cdv))) :
    QSs (cxOf CX0 P w K mg base N__law_is_system "_law_is_system" (defScope s__law_is_system) f cdv A outer s H E).nox (defBody s__law_is_system) (t__law_is_system) :=
  (qss_cons (qs_if (qt_w (qw_or (qt_not (qt_tru (qe_callB (qc_isi .tuple) boot_isinstance (B "isinstance" (by decide)) (qa_cons (qe_var (pv 0)) (qa_cons (qe_ty (B "tuple" (by decide)) boot_tuple) qa_nil))))) (qw_or (qt_cmp (qo_ne hr.u64) (qe_callB (qc_len) PySem.boot_len (B "len" (by decide)) (qa_cons (qe_var (pv 0)) qa_nil)) qe_int (nomark _)) (qw_or (qt_not (qt_tru (qe_def D__law_whole (hr.mono (by decide)) (qa_cons (qe_ix hr.u1 (qe_var (pv 0)) qe_int (fun _ _ => rfl)) qa_nil)))) (qw_or1 (qt_not (qt_chain (qo_leS) (qo_leS) qe_int (qe_ix hr.u1 (qe_var (pv 0)) qe_int (fun _ _ => rfl)) qe_int))))))) (qss_one (qs_ret qe_bl)) qss_nil)
  (qss_cons (qs_if (qt_not (qt_tru (qe_callB (qc_isi .tuple) boot_isinstance (B "isinstance" (by decide)) (qa_cons (qe_ix hr.u1 (qe_var (pv 0)) qe_int (fun _ _ => rfl)) (qa_cons (qe_ty (B "tuple" (by decide)) boot_tuple) qa_nil))))) (qss_one (qs_ret qe_bl)) qss_nil)
  (qss_cons (qs_for PassesOwn.never rfl (qi_seq (qe_ix hr.u1 (qe_var (pv 0)) qe_int (fun _ _ => rfl))) (qg_name (pg_name (i := 1) sc__law_is_system.nd rfl (.inl rfl))) (qss_cons (qs_if (qt_w (qw_or (qt_not (qt_tru (qe_callB (qc_isi .tuple) boot_isinstance (B "isinstance" (by decide)) (qa_cons (qe_var (pv 1)) (qa_cons (qe_ty (B "tuple" (by decide)) boot_tuple) qa_nil))))) (qw_or (qt_cmp (qo_ne hr.u64) (qe_callB (qc_len) PySem.boot_len (B "len" (by decide)) (qa_cons (qe_var (pv 1)) qa_nil)) qe_int (nomark _)) (qw_or (qt_not (qt_tru (qe_callB (qc_isi .str) boot_isinstance (B "isinstance" (by decide)) (qa_cons (qe_ix hr.u1 (qe_var (pv 1)) qe_int (fun _ _ => rfl)) (qa_cons (qe_ty (B "str" (by decide)) boot_str) qa_nil))))) (qw_or1 (qt_cmp (qo_ne hr.u64) (qe_callB (qc_len) PySem.boot_len (B "len" (by decide)) (qa_cons (qe_ix hr.u1 (qe_var (pv 1)) qe_int (fun _ _ => rfl)) qa_nil)) qe_int (nomark _))))))) (qss_one (qs_ret qe_bl)) qss_nil)
  (qss_cons (qs_if (qt_w (qw_or (qt_not (qt_chain (qo_leS) (qo_leS) qe_str (qe_ix hr.u1 (qe_var (pv 1)) qe_int (fun _ _ => rfl)) qe_str)) (qw_or (qt_not (qt_tru (qe_def D__law_whole (hr.mono (by decide)) (qa_cons (qe_ix hr.u1 (qe_var (pv 1)) qe_int (fun _ _ => rfl)) qa_nil)))) (qw_or1 (qt_not (qt_tru (qe_def D__law_whole (hr.mono (by decide)) (qa_cons (qe_ix hr.u1 (qe_var (pv 1)) qe_int (fun _ _ => rfl)) qa_nil)))))))) (qss_one (qs_ret qe_bl)) qss_nil)
  (qss_one (qs_if (qt_w (qw_or (qt_not (qt_chain (qo_leS) (qo_ltM (Nat.lt_of_succ_lt hr.u1)) qe_int (qe_ix hr.u1 (qe_var (pv 1)) qe_int (fun _ _ => rfl)) (qe_ix hr.u1 (qe_var (pv 0)) qe_int (fun _ _ => rfl)))) (qw_or1 (qt_not (qt_chain (qo_leS) (qo_ltM (Nat.lt_of_succ_lt hr.u1)) qe_int (qe_ix hr.u1 (qe_var (pv 1)) qe_int (fun _ _ => rfl)) (qe_ix hr.u1 (qe_var (pv 0)) qe_int (fun _ _ => rfl))))))) (qss_one (qs_ret qe_bl)) qss_nil)))))
  (qss_one (qs_ret (qe_cmp (qo_eq hr.u64) (qe_lc (own := [("k", 2)]) false rfl sc__law_is_system.nd (qi_rng1 (B "range" (by decide)) (qa_cons (qe_op (qo_sub) (qe_callB (qc_len) PySem.boot_len (B "len" (by decide)) (qa_cons (qe_ix hr.u1 (qe_var (pv 0)) qe_int (fun _ _ => rfl)) qa_nil)) qe_int) qa_nil)) (blkOk_by (N := N__law_is_system) (sc := defScope s__law_is_system) (by decide +kernel)) (fun _ _ _ _ _ => (qgw_name (pg_name (i := 2) sc__law_is_system.nd rfl (.inl rfl)) (by decide))) (fun _ _ _ _ _ => (qts_one (qt_not (qt_cmp (qo_ltM (Nat.lt_of_succ_lt hr.u1)) (qe_ix hr.u1 (qe_ix hr.u1 (qe_var (pv 0)) qe_int (fun _ _ => rfl)) (qe_var (pv 2)) (fun _ _ => rfl)) (qe_ix hr.u1 (qe_ix hr.u1 (qe_var (pv 0)) qe_int (fun _ _ => rfl)) (qe_op (qo_add false) (qe_var (pv 2)) qe_int) (fun _ _ => rfl)) (nomark _))))) (fun _ _ _ _ _ => (qe_var (pv 2)))) (qe_lst false qa_nil) (nomark _)))))))
abbrev s_law : Stmt := topS 70
abbrev N_law : List Str := ["script", "box", "letters", "refused", "away", "deep", "near", "plain", "sentence", "system", "wide"]
theorem sc_law : FnScope N_law ["script"] (defScope s_law) := ⟨rfl, rfl, rfl, by decide +kernel, rfl, by decide +kernel, by decide +kernel⟩
def t_law : XS :=
  (wSeq (wSet 1 (wFn sp__law_box (wCons (wVar 0) wNil)))
  (wSeq (wSet 2 (wLst false (wCons (wC (.str "a")) (wCons (wC (.str "b")) (wCons (wC (.str "c")) (wCons (wC (.str "d")) (wCons (wC (.str "e")) wNil)))))))
  (wSeq (wSet 9 (wFn sp__law_system (wCons (wVar 1) (wCons (wC (.int 4)) (wCons (wLst false (wCons (wC (.str "a")) (wCons (wC (.str "e")) wNil))) wNil)))))
  (wSeq (wSet 6 (wFn sp__law_turned (wCons (wVar 1) (wCons (wVar 9) (wCons (wC (.int 3)) wNil)))))
  (wSeq (wSet 7 (wFn sp__law_turned (wCons (wVar 1) (wCons (wFn sp__law_formula (wCons (wVar 1) (wCons (wC (.int 4)) (wCons (wVar 2) (wCons (wLst false wNil) (wCons (wC (.bl true)) (wCons (wC (.bl false)) wNil))))))) (wCons (wC (.int 4)) wNil)))))
  (wSeq (wSet 10 (wFn sp__law_turned (wCons (wVar 1) (wCons (wFn sp__law_formula (wCons (wVar 1) (wCons (wC (.int 5)) (wCons (wVar 2) (wCons (wLst false wNil) (wCons (wC (.bl true)) (wCons (wC (.bl true)) wNil))))))) (wCons (wC (.int 5)) wNil)))))
  (wSeq (wSet 8 (wFn sp__law_turned (wCons (wVar 1) (wCons (wFn sp__law_sentence (wCons (wVar 1) (wCons (wC (.int 4)) (wCons (wC (.int 1)) wNil)))) (wCons (wC (.int 4)) wNil)))))
  (wSeq (wIfS (wNot (wTru (wFn sp__law_says (wCons (wFn sp_is_system (wCons (wVar 6) wNil)) (wCons (wFn sp__law_is_system (wCons (wVar 6) wNil)) wNil))))) (wRet (wC (.bl false))) wNext)
  (wSeq (wIfS (wNot (wTru (wFn sp__law_says (wCons (wFn sp_is_formula (wCons (wVar 7) wNil)) (wCons (wFn sp__law_is_formula (wCons (wVar 7) (wCons (wVar 2) wNil))) wNil))))) (wRet (wC (.bl false))) wNext)
  (wSeq (wIfS (wNot (wTru (wFn sp__law_says (wCons (wFn sp_is_wide (wCons (wVar 10) wNil)) (wCons (wFn sp__law_is_wide (wCons (wVar 10) (wCons (wVar 2) (wCons (wLst false wNil) (wCons (wC (.bl true)) wNil))))) wNil))))) (wRet (wC (.bl false))) wNext)
  (wSeq (wIfS (wNot (wTru (wFn sp__law_says (wCons (wFn sp_is_sentence (wCons (wVar 8) wNil)) (wCons (wFn sp__law_is_sentence (wCons (wVar 8) wNil)) wNil))))) (wRet (wC (.bl false))) wNext)
  (wSeq (wSet 4 (wFn sp__law_pick (wCons (wVar 1) (wCons (wLst false (wCons (w2 oIx (wVar 9) (wC (.int 0))) (wCons (w1 oNeg (wC (.int 1))) (wCons (wC .non) (wCons (wC (.bl true)) (wCons (wC (.str "a")) wNil)))))) wNil))))
  (wSeq (wSet 3 (wLst true wNil))
  (wSeq (wIfS (wNot (wTru (wFn sp__law_is_system (wCons (wVar 6) wNil)))) (wSeq (wDrop (wMeth oAppend (wVar 3) (wCons (wLam "law.<locals>.<lambda>" rets__law_refusal fin__law_refusal (wFnX spx_classes (wCons (wVar 6) wNil))) wNil)))
  (wSeq (wDrop (wMeth oAppend (wVar 3) (wCons (wLam "law.<locals>.<lambda>" rets__law_refusal fin__law_refusal (wFnX spx_alike (wCons (wVar 6) (wCons (wVar 4) (wCons (wVar 9) (wCons (wC (.int 0)) wNil)))))) wNil)))
  (wSeq (wDrop (wMeth oAppend (wVar 3) (wCons (wLam "law.<locals>.<lambda>" rets__law_refusal fin__law_refusal (wFnX spx_is_likeness (wCons (wVar 9) (wCons (wVar 6) (wCons (wTup wNil) wNil))))) wNil)))
  (wDrop (wMeth oAppend (wVar 3) (wCons (wLam "law.<locals>.<lambda>" rets__law_refusal fin__law_refusal (wFnX spx_where (wCons (wVar 6) (wCons (wTup (wCons (wC (.str "true")) wNil)) wNil)))) wNil)))))) wNext)
  (wSeq (wIfS (wNot (wTru (wFn sp__law_is_formula (wCons (wVar 7) (wCons (wVar 2) wNil))))) (wDrop (wMeth oAppend (wVar 3) (wCons (wLam "law.<locals>.<lambda>" rets__law_refusal fin__law_refusal (wFnX spx_holds_at (wCons (wVar 9) (wCons (wVar 4) (wCons (wVar 7) wNil))))) wNil))) wNext)
  (wSeq (wIfS (wNot (wTru (wFn sp__law_is_wide (wCons (wVar 10) (wCons (wVar 2) (wCons (wLst false wNil) (wCons (wC (.bl true)) wNil))))))) (wSeq (wDrop (wMeth oAppend (wVar 3) (wCons (wLam "law.<locals>.<lambda>" rets__law_refusal fin__law_refusal (wFnX spx_where (wCons (wVar 9) (wCons (wVar 10) wNil)))) wNil)))
  (wDrop (wMeth oAppend (wVar 3) (wCons (wLam "law.<locals>.<lambda>" rets__law_refusal fin__law_refusal (wFnX spx_game_of (wCons (wVar 9) (wCons (wVar 10) wNil)))) wNil)))) wNext)
  (wSeq (wIfS (wNot (wTru (wFn sp__law_is_sentence (wCons (wVar 8) wNil)))) (wDrop (wMeth oAppend (wVar 3) (wCons (wLam "law.<locals>.<lambda>" rets__law_refusal fin__law_refusal (wFnX spx_depth_of (wCons (wVar 8) wNil))) wNil))) wNext)
  (wSeq (wDrop (wMeth oAppend (wVar 3) (wCons (wLam "law.<locals>.<lambda>" rets__law_refusal fin__law_refusal (wFnX spx_apart_by (wCons (wTup (wCons (wC (.int 6)) (wCons (wTup wNil) wNil))) (wCons (wTup (wCons (wC (.int 0)) (wCons (wTup wNil) wNil))) (wCons (wC (.int 9)) wNil))))) wNil)))
  (wSeq (wIfS (wB (w2 (oEq true) (wVar 3) (w2 (oMul false) (wLst false (wCons (wC (.str "BadGame")) wNil)) (wCall (c1 oLen) (wCons (wVar 3) wNil))))) (wRet (wC (.bl false))) wNext)
  (wSeq (wSet 3 (wLst true (wCons (wLam "law.<locals>.<lambda>" rets__law_refusal fin__law_refusal (wFnX spx_alike (wCons (wVar 9) (wCons (wVar 4) (wCons (wVar 9) (wCons (wC (.int 0)) wNil)))))) wNil)))
  (wSeq (wDrop (wMeth oAppend (wVar 3) (wCons (wLam "law.<locals>.<lambda>" rets__law_refusal fin__law_refusal (wFnX spx_alike (wCons (wVar 9) (wCons (wC (.int 0)) (wCons (wVar 9) (wCons (wVar 4) wNil)))))) wNil)))
  (wSeq (wDrop (wMeth oAppend (wVar 3) (wCons (wLam "law.<locals>.<lambda>" rets__law_refusal fin__law_refusal (wFnX spx_holds_at (wCons (wVar 9) (wCons (wVar 4) (wCons (wTup (wCons (wC (.str "true")) wNil)) wNil))))) wNil)))
  (wSeq (wIfS (wB (w2 (oEq true) (wVar 3) (w2 (oMul false) (wLst false (wCons (wC (.str "BadPlace")) wNil)) (wC (.int 3))))) (wRet (wC (.bl false))) wNext)
  (wSeq (wSet 5 (wFn sp__law_pick (wCons (wVar 1) (wCons (wLst false (wCons (wC (.int 4)) (wCons (w1 oNeg (wC (.int 1))) (wCons (wC (.int 7)) (wCons (wC .non) wNil))))) wNil))))
  (wRet (w2 (oEq false) (wLam "law.<locals>.<lambda>" rets__law_refusal fin__law_refusal (wFnX spx_apart_by (wCons (wTup (wCons (wC (.int 0)) (wCons (wTup wNil) wNil))) (wCons (wTup (wCons (wC (.int 1)) (wCons (wTup wNil) wNil))) (wCons (wVar 5) wNil))))) (wC (.str "TooMuch"))))))))))))))))))))))))))))
theorem q_law {P : Program} {w : World} {K : PySem.W.Frag} {mg : Str → Option Value} {base : Heap} (B : Blt mg bltNames) (D__law_box : DefOk P w K mg base 1 "_law_box" ["script"] sp__law_box) (D__law_system : DefOk P w K mg base 2 "_law_system" ["box", "most", "letters"] sp__law_system) (D__law_turned : DefOk P w K mg base 34 "_law_turned" ["box", "told", "depth_v"] sp__law_turned) (D__law_formula : DefOk P w K mg base 26 "_law_formula" ["box", "deep", "letters", "names", "straight", "rounds"] sp__law_formula) (D__law_sentence : DefOk P w K mg base 26 "_law_sentence" ["box", "deep", "many"] sp__law_sentence) (D__law_is_system : DefOk P w K mg base 2 "_law_is_system" ["x"] sp__law_is_system) (D_is_system : DefOk P w K mg base 3 "is_system" ["x"] sp_is_system) (D__law_says : DefOk P w K mg base 1 "_law_says" ["x", "due"] sp__law_says) (D__law_is_formula : DefOk P w K mg base 26 "_law_is_formula" ["x", "letters"] sp__law_is_formula) (D_is_formula : DefOk P w K mg base 4 "is_formula" ["x"] sp_is_formula) (D__law_is_wide : DefOk P w K mg base 26 "_law_is_wide" ["x", "letters", "bound", "straight"] sp__law_is_wide) (D_is_wide : DefOk P w K mg base 4 "is_wide" ["x"] sp_is_wide) (D__law_is_sentence : DefOk P w K mg base 26 "_law_is_sentence" ["x"] sp__law_is_sentence) (D_is_sentence : DefOk P w K mg base 26 "is_sentence" ["x"] sp_is_sentence) (D__law_pick : DefOk P w K mg base 2 "_law_pick" ["box", "menu"] sp__law_pick) (G__law_refusal : GiverOk P w K mg "_law_refusal" rets__law_refusal fin__law_refusal) (DX_classes : DefOkX P w K mg base 5 "classes" ["system"] spx_classes) (DX_alike : DefOkX P w K mg base 5 "alike" ["a", "x", "b", "y"] spx_alike) (DX_is_likeness : DefOkX P w K mg base 5 "is_likeness" ["a", "b", "pairs"] spx_is_likeness) (DX_where : DefOkX P w K mg base 6 "where" ["system", "formula"] spx_where) (DX_holds_at : DefOkX P w K mg base 5 "holds_at" ["system", "x", "formula"] spx_holds_at) (DX_game_of : DefOkX P w K mg base 6 "game_of" ["system", "formula"] spx_game_of) (DX_depth_of : DefOkX P w K mg base 28 "depth_of" ["sentence"] spx_depth_of) (DX_apart_by : DefOkX P w K mg base 6 "apart_by" ["a", "b", "d"] spx_apart_by) {f : Addr} {cL PL : Addr} (TB : LamX.TabB base mg cL PL) (hT : PySem.W.tabIn K "law" = some (cL, PL)) {A : Around} {outer : List Env} {s : Shared} {H : Hp} {E : XK} (hr : Room 36 (A.deeper (envOfC "law" (defScope s_law) s.heap.objs.size f (.ref cL)))) :
    QSs (cxOf CX0 P w K mg base N_law "law" (defScope s_law) f (.ref cL) A outer s H E).nox (defBody s_law) (t_law) :=
  (qss_cons (qs_set (fun h => ps_set (i := 1) sc_law.nd rfl (.inl rfl) h) (qe_def D__law_box (hr.mono (by decide)) (qa_cons (qe_var (pv 0)) qa_nil)))
  (qss_cons (qs_set (fun h => ps_set (i := 2) sc_law.nd rfl (.inl rfl) h) (qe_lst false (qa_cons qe_str (qa_cons qe_str (qa_cons qe_str (qa_cons qe_str (qa_cons qe_str qa_nil)))))))
  (qss_cons (qs_set (fun h => ps_set (i := 9) sc_law.nd rfl (.inr rfl) h) (qe_def D__law_system (hr.mono (by decide)) (qa_cons (qe_var (pv 1)) (qa_cons qe_int (qa_cons (qe_lst false (qa_cons qe_str (qa_cons qe_str qa_nil))) qa_nil)))))
  (qss_cons (qs_set (fun h => ps_set (i := 6) sc_law.nd rfl (.inr rfl) h) (qe_def D__law_turned (hr.mono (by decide)) (qa_cons (qe_var (pv 1)) (qa_cons (qe_var (pv 9)) (qa_cons qe_int qa_nil)))))
  (qss_cons (qs_set (fun h => ps_set (i := 7) sc_law.nd rfl (.inr rfl) h) (qe_def D__law_turned (hr.mono (by decide)) (qa_cons (qe_var (pv 1)) (qa_cons (qe_def D__law_formula (hr.mono (by decide)) (qa_cons (qe_var (pv 1)) (qa_cons qe_int (qa_cons (qe_var (pv 2)) (qa_cons (qe_lst false qa_nil) (qa_cons qe_bl (qa_cons qe_bl qa_nil))))))) (qa_cons qe_int qa_nil)))))
  (qss_cons (qs_set (fun h => ps_set (i := 10) sc_law.nd rfl (.inr rfl) h) (qe_def D__law_turned (hr.mono (by decide)) (qa_cons (qe_var (pv 1)) (qa_cons (qe_def D__law_formula (hr.mono (by decide)) (qa_cons (qe_var (pv 1)) (qa_cons qe_int (qa_cons (qe_var (pv 2)) (qa_cons (qe_lst false qa_nil) (qa_cons qe_bl (qa_cons qe_bl qa_nil))))))) (qa_cons qe_int qa_nil)))))
  (qss_cons (qs_set (fun h => ps_set (i := 8) sc_law.nd rfl (.inr rfl) h) (qe_def D__law_turned (hr.mono (by decide)) (qa_cons (qe_var (pv 1)) (qa_cons (qe_def D__law_sentence (hr.mono (by decide)) (qa_cons (qe_var (pv 1)) (qa_cons qe_int (qa_cons qe_int qa_nil)))) (qa_cons qe_int qa_nil)))))
  (qss_cons (qs_if (qt_not (qt_tru (qe_def D__law_says (hr.mono (by decide)) (qa_cons (qe_def D_is_system (hr.mono (by decide)) (qa_cons (qe_var (pv 6)) qa_nil)) (qa_cons (qe_def D__law_is_system (hr.mono (by decide)) (qa_cons (qe_var (pv 6)) qa_nil)) qa_nil))))) (qss_one (qs_ret qe_bl)) qss_nil)
  (qss_cons (qs_if (qt_not (qt_tru (qe_def D__law_says (hr.mono (by decide)) (qa_cons (qe_def D_is_formula (hr.mono (by decide)) (qa_cons (qe_var (pv 7)) qa_nil)) (qa_cons (qe_def D__law_is_formula (hr.mono (by decide)) (qa_cons (qe_var (pv 7)) (qa_cons (qe_var (pv 2)) qa_nil))) qa_nil))))) (qss_one (qs_ret qe_bl)) qss_nil)
  (qss_cons (qs_if (qt_not (qt_tru (qe_def D__law_says (hr.mono (by decide)) (qa_cons (qe_def D_is_wide (hr.mono (by decide)) (qa_cons (qe_var (pv 10)) qa_nil)) (qa_cons (qe_def D__law_is_wide (hr.mono (by decide)) (qa_cons (qe_var (pv 10)) (qa_cons (qe_var (pv 2)) (qa_cons (qe_lst false qa_nil) (qa_cons qe_bl qa_nil))))) qa_nil))))) (qss_one (qs_ret qe_bl)) qss_nil)
  (qss_cons (qs_if (qt_not (qt_tru (qe_def D__law_says (hr.mono (by decide)) (qa_cons (qe_def D_is_sentence (hr.mono (by decide)) (qa_cons (qe_var (pv 8)) qa_nil)) (qa_cons (qe_def D__law_is_sentence (hr.mono (by decide)) (qa_cons (qe_var (pv 8)) qa_nil)) qa_nil))))) (qss_one (qs_ret qe_bl)) qss_nil)
  (qss_cons (qs_set (fun h => ps_set (i := 4) sc_law.nd rfl (.inr rfl) h) (qe_def D__law_pick (hr.mono (by decide)) (qa_cons (qe_var (pv 1)) (qa_cons (qe_lst false (qa_cons (qe_ix hr.u1 (qe_var (pv 9)) qe_int (fun _ _ => rfl)) (qa_cons (qe_neg qe_int) (qa_cons qe_non (qa_cons qe_bl (qa_cons qe_str qa_nil)))))) qa_nil))))
  (qss_cons (qs_set (fun h => ps_set (i := 3) sc_law.nd rfl (.inl rfl) h) (qe_lst true qa_nil))
  (qss_cons (qs_if (qt_not (qt_tru (qe_def D__law_is_system (hr.mono (by decide)) (qa_cons (qe_var (pv 6)) qa_nil)))) (qss_cons (qs_expr (qe_meth PySem.F.slot_list_append PySem.F.type_list_append qm_append (qe_var (pv 3)) (qa_cons (qe_lam (k := 5) G__law_refusal rfl TB hT rfl (hr.mono (by decide)) (LamX.lamS_by (sc := defScope s_law) (by decide +kernel)) (fun _ _ _ _ _ _ _ hr tk => qe_defX DX_classes hr tk (qa_cons (qe_var (pv 6)) qa_nil))) qa_nil)))
  (qss_cons (qs_expr (qe_meth PySem.F.slot_list_append PySem.F.type_list_append qm_append (qe_var (pv 3)) (qa_cons (qe_lam (k := 5) G__law_refusal rfl TB hT rfl (hr.mono (by decide)) (LamX.lamS_by (sc := defScope s_law) (by decide +kernel)) (fun _ _ _ _ _ _ _ hr tk => qe_defX DX_alike hr tk (qa_cons (qe_var (pv 6)) (qa_cons (qe_var (pv 4)) (qa_cons (qe_var (pv 9)) (qa_cons qe_int qa_nil)))))) qa_nil)))
  (qss_cons (qs_expr (qe_meth PySem.F.slot_list_append PySem.F.type_list_append qm_append (qe_var (pv 3)) (qa_cons (qe_lam (k := 5) G__law_refusal rfl TB hT rfl (hr.mono (by decide)) (LamX.lamS_by (sc := defScope s_law) (by decide +kernel)) (fun _ _ _ _ _ _ _ hr tk => qe_defX DX_is_likeness hr tk (qa_cons (qe_var (pv 9)) (qa_cons (qe_var (pv 6)) (qa_cons (qe_tup qa_nil) qa_nil))))) qa_nil)))
  (qss_one (qs_expr (qe_meth PySem.F.slot_list_append PySem.F.type_list_append qm_append (qe_var (pv 3)) (qa_cons (qe_lam (k := 6) G__law_refusal rfl TB hT rfl (hr.mono (by decide)) (LamX.lamS_by (sc := defScope s_law) (by decide +kernel)) (fun _ _ _ _ _ _ _ hr tk => qe_defX DX_where hr tk (qa_cons (qe_var (pv 6)) (qa_cons (qe_tup (qa_cons qe_str qa_nil)) qa_nil)))) qa_nil))))))) qss_nil)
  (qss_cons (qs_if (qt_not (qt_tru (qe_def D__law_is_formula (hr.mono (by decide)) (qa_cons (qe_var (pv 7)) (qa_cons (qe_var (pv 2)) qa_nil))))) (qss_one (qs_expr (qe_meth PySem.F.slot_list_append PySem.F.type_list_append qm_append (qe_var (pv 3)) (qa_cons (qe_lam (k := 5) G__law_refusal rfl TB hT rfl (hr.mono (by decide)) (LamX.lamS_by (sc := defScope s_law) (by decide +kernel)) (fun _ _ _ _ _ _ _ hr tk => qe_defX DX_holds_at hr tk (qa_cons (qe_var (pv 9)) (qa_cons (qe_var (pv 4)) (qa_cons (qe_var (pv 7)) qa_nil))))) qa_nil)))) qss_nil)
  (qss_cons (qs_if (qt_not (qt_tru (qe_def D__law_is_wide (hr.mono (by decide)) (qa_cons (qe_var (pv 10)) (qa_cons (qe_var (pv 2)) (qa_cons (qe_lst false qa_nil) (qa_cons qe_bl qa_nil))))))) (qss_cons (qs_expr (qe_meth PySem.F.slot_list_append PySem.F.type_list_append qm_append (qe_var (pv 3)) (qa_cons (qe_lam (k := 6) G__law_refusal rfl TB hT rfl (hr.mono (by decide)) (LamX.lamS_by (sc := defScope s_law) (by decide +kernel)) (fun _ _ _ _ _ _ _ hr tk => qe_defX DX_where hr tk (qa_cons (qe_var (pv 9)) (qa_cons (qe_var (pv 10)) qa_nil)))) qa_nil)))
  (qss_one (qs_expr (qe_meth PySem.F.slot_list_append PySem.F.type_list_append qm_append (qe_var (pv 3)) (qa_cons (qe_lam (k := 6) G__law_refusal rfl TB hT rfl (hr.mono (by decide)) (LamX.lamS_by (sc := defScope s_law) (by decide +kernel)) (fun _ _ _ _ _ _ _ hr tk => qe_defX DX_game_of hr tk (qa_cons (qe_var (pv 9)) (qa_cons (qe_var (pv 10)) qa_nil)))) qa_nil))))) qss_nil)
  (qss_cons (qs_if (qt_not (qt_tru (qe_def D__law_is_sentence (hr.mono (by decide)) (qa_cons (qe_var (pv 8)) qa_nil)))) (qss_one (qs_expr (qe_meth PySem.F.slot_list_append PySem.F.type_list_append qm_append (qe_var (pv 3)) (qa_cons (qe_lam (k := 28) G__law_refusal rfl TB hT rfl (hr.mono (by decide)) (LamX.lamS_by (sc := defScope s_law) (by decide +kernel)) (fun _ _ _ _ _ _ _ hr tk => qe_defX DX_depth_of hr tk (qa_cons (qe_var (pv 8)) qa_nil))) qa_nil)))) qss_nil)
  (qss_cons (qs_expr (qe_meth PySem.F.slot_list_append PySem.F.type_list_append qm_append (qe_var (pv 3)) (qa_cons (qe_lam (k := 6) G__law_refusal rfl TB hT rfl (hr.mono (by decide)) (LamX.lamS_by (sc := defScope s_law) (by decide +kernel)) (fun _ _ _ _ _ _ _ hr tk => qe_defX DX_apart_by hr tk (qa_cons (qe_tup (qa_cons qe_int (qa_cons (qe_tup qa_nil) qa_nil))) (qa_cons (qe_tup (qa_cons qe_int (qa_cons (qe_tup qa_nil) qa_nil))) (qa_cons qe_int qa_nil))))) qa_nil)))
  (qss_cons (qs_if (qt_cmp (qo_ne hr.u64) (qe_var (pv 3)) (qe_op (qo_mul false) (qe_lst false (qa_cons qe_str qa_nil)) (qe_callB (qc_len) PySem.boot_len (B "len" (by decide)) (qa_cons (qe_var (pv 3)) qa_nil))) (nomark _)) (qss_one (qs_ret qe_bl)) qss_nil)
  (qss_cons (qs_set (fun h => ps_set (i := 3) sc_law.nd rfl (.inl rfl) h) (qe_lst true (qa_cons (qe_lam (k := 5) G__law_refusal rfl TB hT rfl (hr.mono (by decide)) (LamX.lamS_by (sc := defScope s_law) (by decide +kernel)) (fun _ _ _ _ _ _ _ hr tk => qe_defX DX_alike hr tk (qa_cons (qe_var (pv 9)) (qa_cons (qe_var (pv 4)) (qa_cons (qe_var (pv 9)) (qa_cons qe_int qa_nil)))))) qa_nil)))
  (qss_cons (qs_expr (qe_meth PySem.F.slot_list_append PySem.F.type_list_append qm_append (qe_var (pv 3)) (qa_cons (qe_lam (k := 5) G__law_refusal rfl TB hT rfl (hr.mono (by decide)) (LamX.lamS_by (sc := defScope s_law) (by decide +kernel)) (fun _ _ _ _ _ _ _ hr tk => qe_defX DX_alike hr tk (qa_cons (qe_var (pv 9)) (qa_cons qe_int (qa_cons (qe_var (pv 9)) (qa_cons (qe_var (pv 4)) qa_nil)))))) qa_nil)))
  (qss_cons (qs_expr (qe_meth PySem.F.slot_list_append PySem.F.type_list_append qm_append (qe_var (pv 3)) (qa_cons (qe_lam (k := 5) G__law_refusal rfl TB hT rfl (hr.mono (by decide)) (LamX.lamS_by (sc := defScope s_law) (by decide +kernel)) (fun _ _ _ _ _ _ _ hr tk => qe_defX DX_holds_at hr tk (qa_cons (qe_var (pv 9)) (qa_cons (qe_var (pv 4)) (qa_cons (qe_tup (qa_cons qe_str qa_nil)) qa_nil))))) qa_nil)))
  (qss_cons (qs_if (qt_cmp (qo_ne hr.u64) (qe_var (pv 3)) (qe_op (qo_mul false) (qe_lst false (qa_cons qe_str qa_nil)) qe_int) (nomark _)) (qss_one (qs_ret qe_bl)) qss_nil)
  (qss_cons (qs_set (fun h => ps_set (i := 5) sc_law.nd rfl (.inr rfl) h) (qe_def D__law_pick (hr.mono (by decide)) (qa_cons (qe_var (pv 1)) (qa_cons (qe_lst false (qa_cons qe_int (qa_cons (qe_neg qe_int) (qa_cons qe_int (qa_cons qe_non qa_nil))))) qa_nil))))
  (qss_one (qs_ret (qe_cmp (qo_eq hr.u64) (qe_lam (k := 6) G__law_refusal rfl TB hT rfl (hr.mono (by decide)) (LamX.lamS_by (sc := defScope s_law) (by decide +kernel)) (fun _ _ _ _ _ _ _ hr tk => qe_defX DX_apart_by hr tk (qa_cons (qe_tup (qa_cons qe_int (qa_cons (qe_tup qa_nil) qa_nil))) (qa_cons (qe_tup (qa_cons qe_int (qa_cons (qe_tup qa_nil) qa_nil))) (qa_cons (qe_var (pv 5)) qa_nil))))) qe_str (nomark _))))))))))))))))))))))))))))
end K19
namespace K19
open PySem PySem.Spec PyProof.Rows L2 W3 CB MS M19
local macro_rules | `(tactic| walk_at "ev") => `(tactic| conv => whnf)
local macro_rules | `(tactic| walk_at "ix") => `(tactic| (refine ⟨_, rfl, ?_⟩; conv => whnf))
local macro_rules | `(tactic| walk_at "is") => `(tactic| (refine ⟨rfl, _, rfl, ?_⟩; conv => whnf))
theorem r_is_number : Rd sp_is_number N_is_number t_is_number := by
  rintro us μ Q ⟨d, rfl, rfl, o, q⟩
  cases o with
  | int _ i => exact ⟨rfl, _, rfl, rfl, _, rfl, ⟨rfl, q⟩⟩
  | bl _ b => exact ⟨rfl, _, rfl, rfl, _, rfl, ⟨rfl, q⟩⟩
  | _ => exact ⟨rfl, _, rfl, ⟨rfl, q⟩⟩
theorem r__law_whole : Rd sp__law_whole N__law_whole t__law_whole := r_is_number
theorem r_is_below : Rd sp_is_below N_is_below t_is_below := by
  rintro us μ Q ⟨n, d, rfl, rfl, o, q⟩
  refine s_ret (u := .fz (.bl (belB n d))) ?_ ⟨rfl, q⟩
  have v0 : EvE (wVar 0) (startR N_is_below [.fz (.int n), .fz d]) [] (.fz (.int n)) := ev_var rfl
  have v1 : EvE (wVar 1) (startR N_is_below [.fz (.int n), .fz d]) [] (.fz d) := ev_var rfl
  have num : EvE (wFn sp_is_number (wCons (wVar 1) wNil)) (startR N_is_below [.fz (.int n), .fz d]) [] (.fz (.bl (numB d))) := ev_fn1 v1 fun Q q => ⟨d, rfl, rfl, o, q⟩
  cases o with
  | int _ i => exact (ev_andV num fun _ => ev_chain (ev_c _) v1 (fun Q q => q) v0 (fun Q q => q)).at rfl
  | _ => exact (ev_andV (y := false) num fun z => by cases z).at rfl
theorem r_is_tuple : Rd sp_is_tuple N_is_tuple t_is_tuple := by
  rintro us μ Q ⟨d, m, rfl, rfl, o, q⟩
  cases o with
  | tup _ ds _ _ => exact ⟨rfl, _, rfl, ⟨rfl, q⟩⟩
  | _ => exact ⟨rfl, _, rfl, ⟨rfl, q⟩⟩
theorem r_is_word : Rd sp_is_word N_is_word t_is_word := by
  rintro us μ Q ⟨d, rfl, rfl, o, q⟩
  cases o with
  | str _ s hs =>
    refine ⟨rfl, _, rfl, ?_⟩
    exact in_words hs labS (by decide +kernel) (Q := fun b => back 0 Q (.fz (.bl b)) []) ⟨rfl, q⟩
  | _ => exact ⟨rfl, _, rfl, ⟨rfl, q⟩⟩
theorem r_are_below : Rd sp_are_below N_are_below t_are_below := by
  rintro us μ Q ⟨d, e, _, _, h, _⟩
  exact h.elim
theorem r_is_whole : Rd sp_is_whole N_is_whole t_is_whole := by
  rintro us μ Q ⟨d, rfl, rfl, o, q⟩
  cases o with
  | int _ i => exact ⟨rfl, _, rfl, rfl, _, rfl, ⟨rfl, q⟩⟩
  | bl _ b => exact ⟨rfl, _, rfl, rfl, _, rfl, ⟨rfl, q⟩⟩
  | _ => exact ⟨rfl, _, rfl, ⟨rfl, q⟩⟩
theorem r__law_says : Rd sp__law_says N__law_says t__law_says := by
  rintro us μ Q ⟨a, b, rfl, rfl, q⟩
  cases a <;> cases b <;> exact ⟨rfl, q⟩
theorem r__law_pick : Rd sp__law_pick N__law_pick t__law_pick := by
  rintro us μ Q ⟨a, b, c, xs, ds, rfl, rfl, h, hne, hl, q⟩
  have hp : 0 < ds.length := List.length_pos_iff.mpr hne
  refine ⟨⟨nd1, rfl⟩, a, b, c, xs, (ds.length : Int), rfl, rfl, h, by omega, by omega, fun t a b c ht h => ⟨⟨Nat.le_refl _, rfl⟩, ?_⟩⟩
  have ht : t < ds.length := by omega
  refine ⟨ds[t], atI_ix (List.getElem?_eq_getElem ht), ?_⟩
  exact ⟨rfl, q _ a b c (List.getElem_mem ht) h⟩
theorem r__law_box : RdRaw sp__law_box N__law_box t__law_box := rk_box
theorem r__law_take : Rd sp__law_take N__law_take t__law_take := rk_take
end K19
namespace K19
open PySem PySem.Spec PyProof.Rows L2 W3 CB MS M19
local macro_rules | `(tactic| walk_at "ev") => `(tactic| conv => whnf)
local macro_rules | `(tactic| walk_at "ix") => `(tactic| (refine ⟨_, rfl, ?_⟩; conv => whnf))
local macro_rules | `(tactic| walk_at "is") => `(tactic| (refine ⟨rfl, _, rfl, ?_⟩; conv => whnf))
local macro_rules | `(tactic| walk_at "sz") => `(tactic| (refine ⟨small (by show _ ≤ 10000; decide), ?_⟩; conv => whnf))
abbrev x0 : XE := w2 oIx (wVar 0) (wC (.int 0))
abbrev lenX : XE := wCall (c1 oLen) (wCons (wVar 0) wNil)
abbrev isW0 (lit : Str) : XT := wB (w2 (oEq false) x0 (wC (.str lit)))
abbrev isL (k : Int) : XT := wB (w2 (oEq false) lenX (wC (.int k)))
section
variable {w lit : Str} {r : List D} {ρ : Rho} {μ : Mu} {k : Int}
def V0 (ρ : Rho) (d : D) : Prop := ρ[0]? = some (some (.fz d))
theorem ev_0 {d : D} (h : V0 ρ d) : EvE (wVar 0) ρ μ (.fz d) := ev_var h
theorem at0 {x : D} {r : List D} : atI (x :: r) 0 = some x := at_getD (ds := x :: r) (i := 0) (by simp)
theorem at1 {x a : D} {r : List D} : atI (x :: a :: r) 1 = some a := at_getD (ds := x :: a :: r) (i := 1) (by simp)
theorem at2 {x a b : D} {r : List D} : atI (x :: a :: b :: r) 2 = some b := at_getD (ds := x :: a :: b :: r) (i := 2) (by simp)
theorem ev_x0 (h : V0 ρ (.tup (.str w :: r))) : EvE x0 ρ μ (.fz (.str w)) := ev_ix (ev_0 h) (ev_c _) at0
theorem ev_lenX {ds : List D} (h : V0 ρ (.tup ds)) : EvE lenX ρ μ (.fz (.int ds.length)) := ev_len (ev_0 h)
theorem ev_W0 (h : V0 ρ (.tup (.str w :: r))) : Ev (isW0 lit) ρ μ (decide (w = lit)) := ev_B (ev_eqS (ev_x0 h) (ev_c _))
theorem ev_L {ds : List D} (h : V0 ρ (.tup ds)) : Ev (isL k) ρ μ (decide ((ds.length : Int) = k)) := ev_B (ev_eqI (ev_lenX h) (ev_c _))
/-- a word among two -/
theorem in2w (hw : w ∈ wordsL) (a b : Str) (ha : (PyData.strOk a && PyData.strOk b) = true) {Q : Bool → Prop} (neg : Bool) (h : Q (if neg = true then !decide (w = a ∨ w = b) else decide (w = a ∨ w = b))) : ∃ p s ps, toPy (.str w) = some p ∧ toPy (.tup [.str a, .str b]) = some s ∧ unList s = some ps ∧ SeqAt.shaped p = true ∧ SeqAt.shaped s = true ∧ Q (if neg = true then !ps.any fun z => PyData.eqv z p else ps.any fun z => PyData.eqv z p) := by
  simp only [Bool.and_eq_true] at ha
  refine ⟨.str w, .tuple [.str a, .str b], [.str a, .str b], rfl, rfl, rfl, ?_, ?_, ?_⟩
  · unfold SeqAt.shaped; simp [PyData.canLay0, PyData.depth, words_ok w hw]
  · unfold SeqAt.shaped; simp [PyData.canLay0, PyData.canLayAll0, PyData.depth, PyData.depthAll, ha.1, ha.2]
  · have e : ([PyData.str a, PyData.str b].any fun z => PyData.eqv z (.str w)) = decide (w = a ∨ w = b) := by
      have e1 : ([PyData.str a, PyData.str b].any fun z => PyData.eqv z (.str w)) = ((a == w) || (b == w)) := by simp [PyData.eqv]
      rw [e1]
      refine Bool.eq_iff_iff.mpr ?_
      rw [Bool.or_eq_true, beq_iff_eq, beq_iff_eq, decide_eq_true_iff]
      constructor
      · rintro (z | z)
        · exact .inl z.symm
        · exact .inr z.symm
      · rintro (z | z)
        · exact .inl z.symm
        · exact .inr z.symm
    rw [e]
    exact h
theorem in_wordsL {w : Str} (hw : w ∈ wordsL) (l : List Str) (hl : l.all PyData.strOk = true) {Q : Bool → Prop} (h : Q (decide (w ∈ l))) : ∃ p s ps, toPy (.str w) = some p ∧ toPy (.lst (l.map .str)) = some s ∧ unList s = some ps ∧ SeqAt.shaped p = true ∧ SeqAt.shaped s = true ∧ Q (if false = true then !ps.any fun z => PyData.eqv z p else ps.any fun z => PyData.eqv z p) := by
  obtain ⟨p, s, ps, h1, h2, h3, h4, h5, h6⟩ := in_words hw l hl h
  simp only [toPy] at h2 ⊢
  obtain ⟨z, hz⟩ : ∃ z, toPys (l.map D.str) = some z := by
    cases e : toPys (l.map D.str) with
    | none => rw [e] at h2; cases h2
    | some z => exact ⟨z, rfl⟩
  rw [hz] at h2
  have h2 : PyData.tuple z = s := Option.some.inj h2
  subst h2
  have h3 : z = ps := Option.some.inj h3
  subst h3
  simp only [toPy] at h1
  refine ⟨p, .list z, z, h1, by rw [hz]; rfl, rfl, h4, ?_, h6⟩
  unfold SeqAt.shaped at h5 ⊢
  simpa [PyData.canLay0, PyData.depth] using h5
theorem ev_in2 {a b : Str} {e : XE} (hw : w ∈ wordsL) (he : EvE e ρ μ (.fz (.str w))) (ha : (PyData.strOk a && PyData.strOk b) = true) : EvE (w2 (oIn false) e (wTup (wCons (wC (.str a)) (wCons (wC (.str b)) wNil)))) ρ μ (.fz (.bl (decide (w = a ∨ w = b)))) := fun Q q => he _ ⟨small (by show 2 ≤ 10000; omega), in2w hw a b ha false (Q := fun b => Q (.fz (.bl b)) μ) q⟩
theorem ev_nin2 {a b : Str} {e : XE} (hw : w ∈ wordsL) (he : EvE e ρ μ (.fz (.str w))) (ha : (PyData.strOk a && PyData.strOk b) = true) : EvE (w2 (oIn true) e (wTup (wCons (wC (.str a)) (wCons (wC (.str b)) wNil)))) ρ μ (.fz (.bl (!decide (w = a ∨ w = b)))) := fun Q q => he _ ⟨small (by show 2 ≤ 10000; omega), in2w hw a b ha true (Q := fun b => Q (.fz (.bl b)) μ) q⟩
theorem ev_word {e : XE} {d : D} (o : Od 7000 20 d) (he : EvE e ρ μ (.fz d)) : EvE (wFn sp_is_word (wCons e (wCons (wC (.ktup ((["a", "b", "c", "d", "e"] : List Str).map .str))) wNil))) ρ μ (.fz (.bl (wordB d))) := ev_fn2 he (ev_c _) fun Q q => ⟨d, rfl, rfl, o, q⟩
theorem ev_below {e f : XE} {d : D} {n : Int} (o : Od 7000 20 d) (hf : EvE f ρ μ (.fz (.int n))) (he : EvE e ρ μ (.fz d)) : EvE (wFn sp_is_below (wCons f (wCons e wNil))) ρ μ (.fz (.bl (belB n d))) := ev_fn2 hf he fun Q q => ⟨n, d, rfl, rfl, o, q⟩
def isTup : D → Bool
  | .tup _ => true
  | _ => false
def isStr : D → Bool
  | .str _ => true
  | _ => false
theorem ev_isT {e : XE} {d : D} {L j : Nat} (o : Od L j d) (he : EvE e ρ μ (.fz d)) : EvE (wCall (c2 (oIsi .tuple)) (wCons e (wCons (wC (.ty "tuple")) wNil))) ρ μ (.fz (.bl (isTup d))) := by
  cases o <;> exact ev_isi he rfl
theorem ev_isS {e : XE} {d : D} {L j : Nat} (o : Od L j d) (he : EvE e ρ μ (.fz d)) : EvE (wCall (c2 (oIsi .str)) (wCons e (wCons (wC (.ty "str")) wNil))) ρ μ (.fz (.bl (isStr d))) := by
  cases o <;> exact ev_isi he rfl
theorem ev_num {e : XE} {d : D} (o : Od 7000 20 d) (he : EvE e ρ μ (.fz d)) : EvE (wFn sp_is_number (wCons e wNil)) ρ μ (.fz (.bl (numB d))) := ev_fn1 he fun Q q => ⟨d, rfl, rfl, o, q⟩
theorem ev_tupl {e : XE} {d : D} {m : Int} (o : Od 7000 20 d) (he : EvE e ρ μ (.fz d)) : EvE (wFn sp_is_tuple (wCons e (wCons (wC (.int m)) wNil))) ρ μ (.fz (.bl (lenB m d))) := ev_fn2 he (ev_c _) fun Q q => ⟨d, m, rfl, rfl, o, q⟩
end
/-- the first test of formulas and sentences: no tuple with a text ahead -/
abbrev headT : XT := wOr (wNot (wTru (wCall (c2 (oIsi .tuple)) (wCons (wVar 0) (wCons (wC (.ty "tuple")) wNil))))) (wOr (wB (w2 (oEq false) (wCall (c1 oLen) (wCons (wVar 0) wNil)) (wC (.int 0)))) (wNot (wTru (wCall (c2 (oIsi .str)) (wCons (w2 oIx (wVar 0) (wC (.int 0))) (wCons (wC (.ty "str")) wNil))))))
def headB : D → Bool
  | .tup (.str _ :: _) => true
  | _ => false
theorem ev_head {d : D} {L j : Nat} {ρ : Rho} {μ : Mu} (o : Od L j d) (h : V0 ρ d) : Ev headT ρ μ (!headB d) := by
  cases o with
  | tup k ds hl ho =>
    refine (ev_or (x := false) (ev_not (ev_tru (b := true) (ev_isi (ev_0 h) rfl))) fun _ => ev_or (ev_B (ev_eqI (ev_lenX h) (ev_c _))) fun z => ev_not (ev_tru (b := headB (.tup ds)) ?_)).at ?_
    · cases ds with
      | nil => cases z
      | cons x r =>
        refine ((ev_isS (ho x List.mem_cons_self) (ev_ix (ev_0 h) (ev_c _) at0))).at ?_
        cases x <;> rfl
    · cases ds with
      | nil => rfl
      | cons x r =>
        rw [decide_eq_false (show ¬ (((x :: r).length : Int) = 0) by rw [List.length_cons]; omega)]
        rfl
  | _ => exact (ev_or (x := true) (y := false) (ev_not (ev_tru (b := false) (ev_isi (ev_0 h) rfl))) fun z => by cases z).at rfl
theorem head_of {d : D} (h : headB d = true) : ∃ w r, d = .tup (.str w :: r) := by
  unfold headB at h
  split at h
  · exact ⟨_, _, rfl⟩
  · cases h
theorem inn_head {wd : Bool} {d : D} (h : headB d = false) : innB wd d = none := by
  unfold innB
  split
  · cases h
  · rfl
def d1 (r : List D) : D := r.getD 0 .non
/-- inner's own order of tests -/
theorem inn_eq (wd : Bool) (w : Str) (r : List D) : innB wd (.tup (.str w :: r)) =
    if ((decide (w = "true") && decide (((D.str w :: r).length : Int) = 1)) || (wd && (decide (w = "name") && (decide (((D.str w :: r).length : Int) = 2) && belB 6 (d1 r))))) = true then some []
    else if (decide (w = "not") && decide (((D.str w :: r).length : Int) = 2)) = true then some r
    else if (decide (w = "and") && (decide (((D.str w :: r).length : Int) = 2) && isTup (d1 r))) = true then tupD (d1 r)
    else if (decide (w = "can") && (decide (((D.str w :: r).length : Int) = 3) && wordB (d1 r))) = true then some (r.drop 1)
    else if (wd && (decide (w = "least" ∨ w = "most") && (decide (((D.str w :: r).length : Int) = 3) && belB 6 (d1 r)))) = true then some (r.drop 1)
    else none := by
  show innT wd w r = _
  rcases r with _ | ⟨a, _ | ⟨b, _ | ⟨c, r⟩⟩⟩
  · simp [innT]
  · simp only [innT, d1, List.getD_cons_zero, List.length_cons, List.length_nil, List.drop_succ_cons, List.drop_zero]
    simp
    by_cases e1 : wd = true ∧ w = "name" ∧ belB 6 a = true
    · simp [e1]
    · rw [if_neg e1, if_neg e1]
      by_cases e2 : w = "not"
      · simp [e2]
      · rw [if_neg e2, if_neg e2]
        by_cases e3 : w = "and"
        · cases a <;> simp [e3, isTup, tupD]
        · simp [e3]
  · simp only [innT, d1, List.getD_cons_zero, List.length_cons, List.length_nil, List.drop_succ_cons, List.drop_zero]
    simp
  · simp only [innT, d1, List.getD_cons_zero, List.length_cons, List.drop_succ_cons]
    have e1 : ∀ k : Int, k ≤ 3 → ¬ (((r.length + 1 + 1 + 1 + 1 : Nat) : Int) = k) := fun k hk => by omega
    simp only [decide_eq_false (e1 1 (by decide)), decide_eq_false (e1 2 (by decide)), decide_eq_false (e1 3 (by decide))]
    simp
theorem len2 {w : Str} {r : List D} {k : Int} (h : (decide (((D.str w :: r).length : Int) = k)) = true) : (r.length : Int) + 1 = k := by
  have := of_decide_eq_true h
  rw [List.length_cons] at this
  omega
theorem r_inner : Rd sp_inner N_inner t_inner := by
  rintro us μ Q ⟨d, wd, rfl, rfl, o, q⟩
  have z0 : V0 (startR N_inner [.fz d, .fz (.bl wd)]) d := rfl
  have vw : EvE (wVar 1) (startR N_inner [.fz d, .fz (.bl wd)]) [] (.fz (.bl wd)) := ev_var rfl
  refine s_seqIf (ev_head o z0) (fun h => ?_) (fun h => ?_)
  · rw [inn_head (by simpa using h)] at q
    exact s_ret (ev_c _) ⟨rfl, q⟩
  obtain ⟨w, r, rfl⟩ := head_of (d := d) (by simpa using h)
  clear h
  have ho := tup_mem o
  have hw : w ∈ wordsL := by
    cases ho _ List.mem_cons_self with
    | str _ _ h => exact h
  have e1 : ∀ {k : Int}, 2 ≤ k → (decide (((D.str w :: r).length : Int) = k)) = true → EvE (w2 oIx (wVar 0) (wC (.int 1))) (startR N_inner [.fz (.tup (.str w :: r)), .fz (.bl wd)]) [] (.fz (d1 r)) ∧ Od 7000 20 (d1 r) := fun hk h => by
    have := len2 h
    cases r with
    | nil => simp at this; omega
    | cons a r => exact ⟨ev_ix (ev_0 z0) (ev_c _) at1, (ho a (by simp)).mono (by omega) (by omega)⟩
  rw [inn_eq] at q
  refine s_seqIf (ev_or (ev_and (ev_W0 z0) fun _ => ev_L z0) fun _ => ev_and (ev_tru vw) fun _ => ev_and (ev_W0 z0) fun _ => ev_and (ev_L z0) fun h => ev_tru (ev_below (e1 (by decide) h).2 (ev_c _) (e1 (by decide) h).1)) (fun h => ?_) (fun h => ?_)
  · rw [if_pos h] at q
    exact ⟨small (by show 0 ≤ 10000; omega), rfl, q⟩
  rw [if_neg (by rw [h]; decide)] at q
  refine s_seqIf (ev_and (ev_W0 z0) fun _ => ev_L z0) (fun h => ?_) (fun h => ?_)
  · rw [if_pos h] at q
    refine ⟨rfl, ?_⟩
    have e : cutA (D.str w :: r) (some ((1 : Nat) : Int)) none = r := by rw [cut_from]; rfl
    show Q (.fz (.tup (cutA (D.str w :: r) (some ((1 : Nat) : Int)) none))) []
    rw [e]
    exact q
  rw [if_neg (by rw [h]; decide)] at q
  refine s_seqIf (ev_and (ev_W0 z0) fun _ => ev_and (ev_L z0) fun h => ev_tru (ev_isT (e1 (by decide) h).2 (e1 (by decide) h).1)) (fun h => ?_) (fun h => ?_)
  · rw [if_pos h] at q
    simp only [Bool.and_eq_true] at h
    obtain ⟨_, h2, h3⟩ := h
    refine s_ret (e1 (by decide) h2).1 ⟨rfl, ?_⟩
    cases e : d1 r <;> rw [e] at h3 q <;> first | (cases h3; done) | exact q
  rw [if_neg (by rw [h]; decide)] at q
  refine s_seqIf (ev_and (ev_W0 z0) fun _ => ev_and (ev_L z0) fun h => ev_tru (ev_word (e1 (by decide) h).2 (e1 (by decide) h).1)) (fun h => ?_) (fun h => ?_)
  · rw [if_pos h] at q
    refine ⟨rfl, ?_⟩
    have e : cutA (D.str w :: r) (some ((2 : Nat) : Int)) none = r.drop 1 := by rw [cut_from]; rfl
    show Q (.fz (.tup (cutA (D.str w :: r) (some ((2 : Nat) : Int)) none))) []
    rw [e]
    exact q
  rw [if_neg (by rw [h]; decide)] at q
  refine s_seqIf (ev_and (ev_tru vw) fun _ => ev_and (ev_B (ev_in2 hw (ev_x0 z0) (by decide +kernel))) fun _ => ev_and (ev_L z0) fun h => ev_tru (ev_below (e1 (by decide) h).2 (ev_c _) (e1 (by decide) h).1)) (fun h => ?_) (fun h => ?_)
  · rw [if_pos h] at q
    refine ⟨rfl, ?_⟩
    have e : cutA (D.str w :: r) (some ((2 : Nat) : Int)) none = r.drop 1 := by rw [cut_from]; rfl
    show Q (.fz (.tup (cutA (D.str w :: r) (some ((2 : Nat) : Int)) none))) []
    rw [e]
    exact q
  rw [if_neg (by rw [h]; decide)] at q
  exact s_ret (ev_c _) ⟨rfl, q⟩
end K19
namespace K19
open PySem PySem.Spec PyProof.Rows L2 W3 CB MS M19
local macro_rules | `(tactic| walk_at "ev") => `(tactic| conv => whnf)
local macro_rules | `(tactic| walk_at "ix") => `(tactic| (refine ⟨_, rfl, ?_⟩; conv => whnf))
theorem sum_sizes : ∀ l : List D, (l.map sizeOf).sum ≤ sizeOf l
  | [] => by simp
  | d :: l => by
    have := sum_sizes l
    simp
    omega
def fuU (p : Nat × D) : U := .fz p.2
noncomputable def szF (st : List (Nat × D)) : Nat := (st.map fun p => sizeOf p.2).sum
theorem r_is_formula : Rd sp_is_formula N_is_formula t_is_formula := by
  rintro us μ Q ⟨d, rfl, rfl, o, q⟩
  walk_at "ev"
  refine ⟨small (by show 1 ≤ 10000; omega), ?_⟩
  refine while_by (fun m ρ μ => ∃ (st : List (Nat × D)) (b : Nat) (o2 : Option U), ρ = [some (.fz d), some (.ptr 0), o2] ∧ μ = [.lst (st.map fuU)] ∧ b ≤ 21 ∧ Blk (·.1) 60 20 b st ∧ (∀ p ∈ st, Od 60 p.1 p.2) ∧ isF 20 d = st.all (fun p => isF p.1 p.2) ∧ szF st ≤ m) (sizeOf d)
    ⟨[(20, d)], 1, none, rfl, rfl, by omega, ⟨[], [(20, d)], rfl, rfl, by simp, by simp⟩, by simp [o], by simp, by simp [szF]⟩ ?_
  rintro m _ _ ⟨st, b, o2, rfl, rfl, hb, blk, ho, he, hm⟩ T k1 k2
  rcases List.eq_nil_or_concat st with rfl | ⟨st', it, e2⟩
  · rw [he] at q
    exact ⟨rfl, q⟩
  have e2 : st = st' ++ [it] := by simpa using e2
  subst e2
  obtain ⟨b', lb, hf, blk'⟩ := blk.pop
  obtain ⟨f, g⟩ := it
  have hf : f + b' = 20 := hf
  have og : Od 60 f g := ho (f, g) (by simp)
  obtain ⟨k, rfl⟩ : ∃ k, f = k + 1 := by
    cases f with
    | zero => cases og
    | succ k => exact ⟨k, rfl⟩
  walk_at "ev"
  refine ifT (by simp) ?_
  walk_at "ev"
  refine ⟨rfl, ?_⟩
  walk_at "ev"
  refine ⟨fuU (k + 1, g), by simp, ?_⟩
  have ed : ((st' ++ [(k + 1, g)]).map fuU).dropLast = st'.map fuU := by
    rw [List.map_append]
    exact List.dropLast_concat
  rw [ed]
  walk_at "ev"
  refine ⟨⟨List.nodup_nil, rfl⟩, g, false, rfl, rfl, og.mono (Nat.le_refl _) (by omega), ⟨⟨Nat.zero_le _, rfl⟩, ?_⟩⟩
  rw [List.all_append] at he
  simp only [List.all_cons, List.all_nil, Bool.and_true] at he
  have eg : isF (k + 1) g = match innB false g with
    | none => false
    | some l => l.all (isF k) := rfl
  cases e : innB false g with
  | none =>
    rw [e] at eg
    rw [he, eg, Bool.and_false] at q
    walk_at "ev"
    exact ⟨rfl, q⟩
  | some l =>
    rw [e] at eg
    have eg : isF (k + 1) g = l.all (isF k) := eg
    obtain ⟨hl, hol, hsz⟩ := inn_od og e (by omega)
    have len := blk'.len
    walk_at "ev"
    refine ⟨rfl, ?_⟩
    walk_at "ev"
    refine ⟨small (by rw [List.length_map]; omega), ?_⟩
    have em : st'.map fuU ++ l.map U.fz = (st' ++ l.map fun p => (k, p)).map fuU := by
      rw [List.map_append, List.map_map]
      rfl
    refine k1 (m - 1) _ _ ?_ ⟨st' ++ l.map (fun p => (k, p)), b' + 2, _, rfl, by rw [em]; rfl, by omega, blk'.push (by rw [List.length_map]; exact hl) (fun x mx => ?_), fun p mp => ?_, ?_, ?_⟩
    · have : 0 < szF (st' ++ [(k + 1, g)]) := by simp [szF]; omega
      omega
    · obtain ⟨p, _, rfl⟩ := List.mem_map.mp mx
      show k + (b' + 1) = 20
      omega
    · rcases List.mem_append.mp mp with mp | mp
      · exact ho p (List.mem_append_left _ mp)
      · obtain ⟨x, mx, rfl⟩ := List.mem_map.mp mp
        exact hol x mx
    · rw [he, eg, List.all_append, List.all_map]
      rfl
    · have s1 : szF (st' ++ [(k + 1, g)]) = szF st' + sizeOf g := by simp [szF]
      have s2 : szF (st' ++ l.map fun p => (k, p)) = szF st' + (l.map sizeOf).sum := by
        unfold szF
        rw [List.map_append, List.map_map, List.sum_append]
        rfl
      have := sum_sizes l
      omega
end K19
namespace K19
open PySem PySem.Spec PyProof.Rows L2 W3 CB MS M19
local macro_rules | `(tactic| walk_at "ev") => `(tactic| conv => whnf)
local macro_rules | `(tactic| walk_at "ix") => `(tactic| (refine ⟨_, rfl, ?_⟩; conv => whnf))
/-! what is bound -/
def kdB (bd : Bnd) : List (Key × D) := bd.map fun p => ((.inl p.1 : Key), D.bl p.2)
theorem prDs_w : ∀ bd : Bnd, prDs (bd.map wayD) = some (kdB bd)
  | [] => rfl
  | (k, w) :: bd => by
    rw [List.map_cons]
    unfold prDs
    rw [prDs_w bd]
    rfl
theorem putA_new {κ α : Type} [DecidableEq κ] {l : List (κ × α)} {k : κ} {v : α} (h : k ∉ l.map (·.1)) : putA l k v = l ++ [(k, v)] := by
  unfold putA
  rw [if_neg]
  intro z
  obtain ⟨p, m, e⟩ := List.any_eq_true.mp z
  exact h (List.mem_map.mpr ⟨p, m, of_decide_eq_true e⟩)
theorem merge_nd : ∀ (kds acc : List (Key × D)), ((acc ++ kds).map (·.1)).Nodup → kds.foldl (fun acc kv => putA acc kv.1 kv.2) acc = acc ++ kds
  | [], acc, _ => by simp
  | (k, d) :: kds, acc, h => by
    rw [List.foldl_cons]
    have h0 := h
    rw [List.map_append, List.map_cons] at h0
    have hk : k ∉ acc.map (·.1) := fun z => (List.nodup_append.mp h0).2.2 k z k (List.mem_cons_self) rfl
    rw [putA_new hk]
    have e : acc ++ (k, d) :: kds = (acc ++ [(k, d)]) ++ kds := by rw [List.append_assoc]; rfl
    rw [e] at h ⊢
    exact merge_nd kds _ h
theorem kd_nd {bd : Bnd} (h : (bd.map (·.1)).Nodup) : ((kdB bd).map (·.1)).Nodup := by
  unfold kdB
  rw [List.map_map]
  have e : (bd.map ((fun x : Key × D => x.1) ∘ fun p => ((.inl p.1 : Key), D.bl p.2))) = (bd.map (·.1)).map fun k : Int => (Sum.inl k : Key) := by rw [List.map_map]; rfl
  rw [e]
  unfold List.Nodup
  rw [List.pairwise_map]
  exact h.imp fun {a b} n z => n (by injection z)
theorem merge_kd {bd : Bnd} (h : (bd.map (·.1)).Nodup) : mergeA (kdB bd) = kdB bd := merge_nd (kdB bd) [] (by rw [List.nil_append]; exact kd_nd h)
theorem look_kd {k : Int} : ∀ bd : Bnd, W3.look (kdB bd) (.inl k : Key) = (bd.lookup k).map D.bl
  | [] => rfl
  | (j, w) :: bd => by
    have e : kdB ((j, w) :: bd) = ((.inl j : Key), D.bl w) :: kdB bd := rfl
    rw [e, List.lookup_cons]
    have ih := look_kd (k := k) bd
    unfold W3.look at ih ⊢
    rw [List.find?_cons]
    by_cases c : k = j
    · subst c
      simp
    · have c1 : ¬ ((.inl j : Key) = .inl k) := fun z => c (by injection z with z; exact z.symm)
      rw [decide_eq_false c1, show (k == j) = false from beq_eq_false_iff_ne.mpr c]
      exact ih
theorem lookup_none {k : Int} : ∀ {bd : Bnd}, bd.lookup k = none → k ∉ bd.map (·.1)
  | [], _ => by simp
  | (j, w) :: bd, h => by
    rw [List.lookup_cons] at h
    cases c : (k == j) with
    | true => rw [c] at h; cases h
    | false =>
      rw [c] at h
      rw [List.map_cons, List.mem_cons]
      rintro (z | z)
      · exact (beq_eq_false_iff_ne.mp c) z
      · exact lookup_none h z
theorem nd_app {bd : Bnd} {k : Int} {v : Bool} (h : (bd.map (·.1)).Nodup) (hk : k ∉ bd.map (·.1)) : ((bd ++ [(k, v)]).map (·.1)).Nodup := by
  rw [List.map_append]
  exact List.nodup_append.mpr ⟨h, by simp, fun a ha b hb z => by
    simp only [List.map_cons, List.map_nil, List.mem_singleton] at hb
    exact hk (by rw [← hb, ← z]; exact ha)⟩
theorem flip_keys (bd : Bnd) : (flipN bd).map (·.1) = bd.map (·.1) := by unfold flipN; rw [List.map_map]; rfl
/-! wide formulas: one turn of the waiting list -/
abbrev Itm := Nat × D × Bnd
def itU (it : Itm) : U := .fz (.tup [it.2.1, .ptup (it.2.2.map wayD)])
noncomputable def szI (st : List Itm) : Nat := (st.map fun p => sizeOf p.2.1).sum
def okI (p : Itm) : Prop := Od 60 p.1 p.2.1 ∧ (p.2.2.map (·.1)).Nodup ∧ p.2.2.length + p.1 ≤ 20
def t_wext : XS :=
  (wDrop (wMeth oExtend (wVar 1) (wCons (wLc false (xSeq (wVar 4)) (gSet 5) wYes (wTup (wCons (wVar 5) (wCons (wVar 3) wNil))) [5]) wNil)))
theorem r_wext {d g : D} {bd' : Bnd} {l : List D} {st' : List Itm} {k : Nat} {o6 o7 : Option U} {T bk' : Rho → Mu → Prop} {rt : UK} (hl : l.length ≤ 60) (hs : st'.length ≤ 5000)
    (kk : T [some (.fz d), some (.ptr 0), some (.fz g), some (.fz (.ptup (bd'.map wayD))), some (.fz (.tup l)), none, o6, o7] [.lst ((st' ++ l.map fun p => (k, p, bd')).map itU)]) :
    t_wext ⟨T, rt, bk', T⟩ [some (.fz d), some (.ptr 0), some (.fz g), some (.fz (.ptup (bd'.map wayD))), some (.fz (.tup l)), none, o6, o7] [.lst (st'.map itU)] := by
  walk_at "ev"
  refine ⟨rfl, ?_⟩
  walk_at "ev"
  refine ⟨small (by rw [List.length_map]; omega), ?_⟩
  refine compX_map (fun p => .tup [p, .ptup (bd'.map wayD)]) l (fun p m Kt Kf k => ?_) ?_
  · walk_at "ev"
    exact ⟨small (by show 2 ≤ 10000; omega), k⟩
  walk_at "ev"
  refine ⟨small (by rw [List.length_map, List.length_map, List.length_map]; omega), ?_⟩
  have em : ((st' ++ l.map fun p => (k, p, bd')).map itU) = st'.map itU ++ (l.map fun p => D.tup [p, .ptup (bd'.map wayD)]).map .fz := by
    rw [List.map_append, List.map_map, List.map_map]
    rfl
  rw [em] at kk
  exact kk
/-- what stands behind the head where a number is wanted -/
theorem num1 {wd : Bool} {w : Str} {r l : List D} (h : innB wd (.tup (.str w :: r)) = some l) (hw : w = "name" ∨ w = "least" ∨ w = "most") : ∃ i r', r = .int i :: r' := by
  have h : innT wd w r = some l := h
  have bl : ∀ {a : D}, belB 6 a = true → ∃ i, a = .int i := fun {a} z => by
    cases a <;> first | exact ⟨_, rfl⟩ | cases z
  have n1 : w ≠ "true" := by rcases hw with rfl | rfl | rfl <;> decide +kernel
  have n2 : w ≠ "not" := by rcases hw with rfl | rfl | rfl <;> decide +kernel
  have n3 : w ≠ "and" := by rcases hw with rfl | rfl | rfl <;> decide +kernel
  have n4 : w ≠ "can" := by rcases hw with rfl | rfl | rfl <;> decide +kernel
  rcases r with _ | ⟨a, _ | ⟨b, _ | ⟨c, r⟩⟩⟩
  · simp only [innT, if_neg n1] at h
    cases h
  · simp only [innT] at h
    split at h
    · rename_i z
      obtain ⟨i, rfl⟩ := bl z.2.2
      exact ⟨i, _, rfl⟩
    · simp [n2, n3] at h
  · simp only [innT] at h
    rw [if_neg (fun z => n4 z.1)] at h
    split at h
    · rename_i z
      obtain ⟨i, rfl⟩ := bl z.2.2
      exact ⟨i, _, rfl⟩
    · cases h
  · cases h
abbrev x20 : XE := w2 oIx (wVar 2) (wC (.int 0))
abbrev x21 : XE := w2 oIx (wVar 2) (wC (.int 1))
abbrev dictX : XE := wCall (c1 (oDictP false)) (wCons (wVar 3) wNil)
def t_w5 : XS :=
  (wSeq (wIfS (wB (w2 (oIn false) x20 (wTup (wCons (wC (.str "least")) (wCons (wC (.str "most")) wNil))))) (wSeq (wIfS (wB (w2 (oIn false) x21 dictX)) (wRet (wC (.bl false))) wNext)
  (wSet 3 (w2 oAddP (wVar 3) (wTupP (wCons (wTup (wCons x21 (wCons (wC (.bl true)) wNil))) wNil))))) wNext)
  t_wext)
def t_w4 : XS :=
  (wSeq (wIfS (wB (w2 (oEq false) x20 (wC (.str "not")))) (wSet 3 (wCall (c1 oTupleP) (wCons (wLc false (xSeq (wK (wVar 3))) (gTupX 2 (gConsX (gSet 6) (gConsX (gSet 7) gNilX))) wYes (wTup (wCons (wVar 6) (wCons (wNotV (wVar 7)) wNil))) [6, 7]) wNil))) wNext)
  t_w5)
def t_w3 : XS :=
  (wSeq (wIfS (wAnd (wB (w2 (oEq false) x20 (wC (.str "name")))) (wB (w2 (oIsM true) (wGet dictX x21) (wC (.bl true))))) (wRet (wC (.bl false))) wNext)
  t_w4)
section
variable {d : D} {w : Str} {r l : List D} {bd : Bnd} {st' : List Itm} {k : Nat} {T bk' : Rho → Mu → Prop} {rt : UK}
abbrev rhoW (d : D) (w : Str) (r l : List D) (bd : Bnd) (o6 o7 : Option U) : Rho := [some (.fz d), some (.ptr 0), some (.fz (.tup (.str w :: r))), some (.fz (.ptup (bd.map wayD))), some (.fz (.tup l)), none, o6, o7]
theorem ev_20 {o6 o7 : Option U} {μ : Mu} : EvE x20 (rhoW d w r l bd o6 o7) μ (.fz (.str w)) := ev_ix (ev_var rfl) (ev_c _) at0
theorem ev_21 {i : Int} {r' : List D} {o6 o7 : Option U} {μ : Mu} : EvE x21 (rhoW d w (.int i :: r') l bd o6 o7) μ (.fz (.int i)) := ev_ix (ev_var rfl) (ev_c _) at1
theorem ev_dict (nd : (bd.map (·.1)).Nodup) {o6 o7 : Option U} {μ : Mu} : EvE dictX (rhoW d w r l bd o6 o7) μ (.fz (.dK (kdB bd))) := fun Q q => ⟨kdB bd, prDs_w bd, by rw [merge_kd nd]; exact q⟩
theorem lk_w {i : Int} (μ : Mu) : dlook μ (.fz (.dK (kdB bd))) (.fz (.int i)) = some ((bd.lookup i).map fun b => .fz (.bl b)) := by
  show some ((W3.look (kdB bd) (.inl i : Key)).map U.fz) = _
  rw [look_kd, Option.map_map]
  rfl
theorem ev_ind (nd : (bd.map (·.1)).Nodup) {i : Int} {r' : List D} {o6 o7 : Option U} {μ : Mu} : Ev (wB (w2 (oIn false) x21 dictX)) (rhoW d w (.int i :: r') l bd o6 o7) μ (bd.lookup i).isSome :=
  ev_B (ev_2 ev_21 (ev_dict nd) fun Q q => ⟨_, lk_w μ, by
    cases e : bd.lookup i <;> (rw [e] at q; exact q)⟩)
theorem ev_isnt (nd : (bd.map (·.1)).Nodup) {i : Int} {r' : List D} {o6 o7 : Option U} {μ : Mu} : Ev (wB (w2 (oIsM true) (wGet dictX x21) (wC (.bl true)))) (rhoW d w (.int i :: r') l bd o6 o7) μ (!decide (bd.lookup i = some true)) := by
  refine ev_B (ev_2 (u := ((bd.lookup i).map fun b => .fz (.bl b)).getD (.fz .non)) (fun Q q => ev_dict nd _ ⟨rfl, ev_21 _ ⟨_, lk_w μ, q⟩⟩) (ev_c _) fun Q q => ?_)
  cases e : bd.lookup i with
  | none => rw [e] at q; exact q
  | some b => rw [e] at q; cases b <;> exact q
theorem r_w5 (hl : l.length ≤ 60) (hs : st'.length ≤ 5000) (hb : bd.length ≤ 60) (hw : w ∈ wordsL) (nd : (bd.map (·.1)).Nodup) (hn : w ≠ "name") (h : innB true (.tup (.str w :: r)) = some l) (ne : w ≠ "not") {o6 o7 : Option U}
    (kk : ∀ bd' o6 o7, stepW w r bd = some bd' → T (rhoW d w r l bd' o6 o7) [.lst ((st' ++ l.map fun p => (k, p, bd')).map itU)]) (kf : stepW w r bd = none → rt (.fz (.bl false)) [.lst (st'.map itU)]) :
    t_w5 ⟨T, rt, bk', T⟩ (rhoW d w r l bd o6 o7) [.lst (st'.map itU)] := by
  unfold stepW at kk kf
  rw [if_neg hn, if_neg ne] at kf
  refine s_seqIf (ev_B (ev_in2 hw ev_20 (by decide +kernel))) (fun c => ?_) (fun c => ?_)
  · have c := of_decide_eq_true c
    obtain ⟨i, r', rfl⟩ := num1 h (.inr c)
    rw [if_pos c] at kf
    have kf : (if (bd.lookup i).isSome = true then none else some (bd ++ [(i, true)])) = none → rt (.fz (.bl false)) [.lst (st'.map itU)] := kf
    have kk : ∀ bd' o6 o7, (if (bd.lookup i).isSome = true then none else some (bd ++ [(i, true)])) = some bd' → T (rhoW d w (.int i :: r') l bd' o6 o7) [.lst ((st' ++ l.map fun p => (k, p, bd')).map itU)] := fun bd' o6 o7 z => kk bd' o6 o7 (by rw [if_neg hn, if_neg ne, if_pos c]; exact z)
    refine s_seqIf (ev_ind nd) (fun c2 => s_ret (ev_c _) (kf (if_pos c2))) (fun c2 => ?_)
    have e : EvE (w2 oAddP (wVar 3) (wTupP (wCons (wTup (wCons x21 (wCons (wC (.bl true)) wNil))) wNil))) (rhoW d w (.int i :: r') l bd o6 o7) [.lst (st'.map itU)] (.fz (.ptup ((bd ++ [(i, true)]).map wayD))) := fun Q q => by
      rw [List.map_append] at q
      walk_at "ev"
      refine ⟨_, at1, ?_⟩
      walk_at "ev"
      refine ⟨small (by show 2 ≤ 10000; omega), ?_⟩
      walk_at "ev"
      refine ⟨small (by show 1 ≤ 10000; omega), ?_⟩
      walk_at "ev"
      exact ⟨small (by rw [List.length_map]; show bd.length + 1 ≤ 10000; omega), q⟩
    refine e _ ?_
    exact r_wext (k := k) hl hs (kk _ o6 o7 (if_neg (by rw [c2]; decide)))
  · have c := of_decide_eq_false c
    refine r_wext (k := k) hl hs (kk bd o6 o7 ?_)
    rw [if_neg hn, if_neg ne, if_neg c]
theorem wayD_flip (bd : Bnd) : (bd.map fun p => wayD (p.1, !p.2)) = (flipN bd).map wayD := by unfold flipN; rw [List.map_map]; rfl
theorem step_flip {bd' : Bnd} (hn : w ≠ "name") (hl : ¬ (w = "least" ∨ w = "most")) (ne : w ≠ "not") : stepW w r bd' = some bd' := by
  unfold stepW
  rw [if_neg hn, if_neg ne, if_neg hl]
theorem r_w4 (hl : l.length ≤ 60) (hs : st'.length ≤ 5000) (hb : bd.length ≤ 60) (hw : w ∈ wordsL) (nd : (bd.map (·.1)).Nodup) (hn : w ≠ "name") (h : innB true (.tup (.str w :: r)) = some l) {o6 o7 : Option U}
    (kk : ∀ bd' o6 o7, stepW w r bd = some bd' → T (rhoW d w r l bd' o6 o7) [.lst ((st' ++ l.map fun p => (k, p, bd')).map itU)]) (kf : stepW w r bd = none → rt (.fz (.bl false)) [.lst (st'.map itU)]) :
    t_w4 ⟨T, rt, bk', T⟩ (rhoW d w r l bd o6 o7) [.lst (st'.map itU)] := by
  refine s_seqIf (ev_B (ev_eqS ev_20 (ev_c _))) (fun c => ?_) (fun c => ?_)
  · have c := of_decide_eq_true c
    subst c
    have kk := fun o6 o7 => kk (flipN bd) o6 o7 rfl
    walk_at "ev"
    refine ⟨small (by rw [List.length_map, List.length_map]; omega), ?_⟩
    rw [List.map_map]
    refine compX_map (fun p => wayD (p.1, !p.2)) bd (fun p m Kt Kf k => ?_) ?_
    · walk_at "ev"
      refine ⟨rfl, ?_⟩
      walk_at "ev"
      exact ⟨small (by show 2 ≤ 10000; omega), k⟩
    walk_at "ev"
    refine ⟨_, rfl, ?_⟩
    rw [wayD_flip]
    show t_w5 ⟨T, rt, bk', T⟩ (rhoW d "not" r l (flipN bd) o6 o7) [.lst (st'.map itU)]
    refine s_seqIf (ev_B (ev_in2 hw ev_20 (by decide +kernel))) (fun c => ?_) (fun c => ?_)
    · exact absurd (of_decide_eq_true c) (by decide +kernel)
    · exact r_wext (k := k) hl hs (kk o6 o7)
  · exact r_w5 hl hs hb hw nd hn h (of_decide_eq_false c) kk kf
theorem r_w3 (hl : l.length ≤ 60) (hs : st'.length ≤ 5000) (hb : bd.length ≤ 60) (hw : w ∈ wordsL) (nd : (bd.map (·.1)).Nodup) (h : innB true (.tup (.str w :: r)) = some l) {o6 o7 : Option U}
    (kk : ∀ bd' o6 o7, stepW w r bd = some bd' → T (rhoW d w r l bd' o6 o7) [.lst ((st' ++ l.map fun p => (k, p, bd')).map itU)]) (kf : stepW w r bd = none → rt (.fz (.bl false)) [.lst (st'.map itU)]) :
    t_w3 ⟨T, rt, bk', T⟩ (rhoW d w r l bd o6 o7) [.lst (st'.map itU)] := by
  by_cases c : w = "name"
  · subst c
    obtain ⟨i, r', rfl⟩ := num1 h (.inl rfl)
    have kf : (if bd.lookup i = some true then some bd else none) = none → rt (.fz (.bl false)) [.lst (st'.map itU)] := kf
    have kk : ∀ bd' o6 o7, (if bd.lookup i = some true then some bd else none) = some bd' → T (rhoW d "name" (.int i :: r') l bd' o6 o7) [.lst ((st' ++ l.map fun p => (k, p, bd')).map itU)] := kk
    refine s_seqIf (ev_and (ev_B (ev_eqS ev_20 (ev_c _))) fun _ => ev_isnt nd) (fun c => ?_) (fun c => ?_)
    · simp only [Bool.and_eq_true, Bool.not_eq_true', decide_eq_false_iff_not] at c
      exact s_ret (ev_c _) (kf (if_neg c.2))
    · have c : bd.lookup i = some true := by
        rw [decide_eq_true rfl, Bool.true_and] at c
        simpa using c
      refine s_seqIf (ev_B (ev_eqS ev_20 (ev_c _))) (fun c => absurd (of_decide_eq_true c) (by decide +kernel)) (fun _ => ?_)
      refine s_seqIf (ev_B (ev_in2 hw ev_20 (by decide +kernel))) (fun c => absurd (of_decide_eq_true c) (by decide +kernel)) (fun _ => ?_)
      exact r_wext (k := k) hl hs (kk bd o6 o7 (if_pos c))
  · refine s_seqIf (ev_and (y := false) (ev_B (ev_eqS ev_20 (ev_c _))) fun z => absurd (of_decide_eq_true z) c) (fun z => by simp at z) (fun _ => ?_)
    exact r_w4 hl hs hb hw nd c h kk kf
end
theorem isW_succ {k : Nat} {w : Str} {r : List D} {bd : Bnd} {l : List D} (h : innB true (.tup (.str w :: r)) = some l) : isW (k + 1) (.tup (.str w :: r)) bd = match stepW w r bd with
    | none => false
    | some bd' => l.all fun p => isW k p bd' := by
  show (match innB true (.tup (.str w :: r)), D.tup (.str w :: r) with
    | some l, .tup (.str w :: r) => (match stepW w r bd with
      | none => false
      | some bd' => l.all fun p => isW k p bd')
    | _, _ => false) = _
  rw [h]
theorem isW_none {k : Nat} {d : D} {bd : Bnd} (h : innB true d = none) : isW (k + 1) d bd = false := by
  show (match innB true d, d with
    | some l, .tup (.str w :: r) => (match stepW w r bd with
      | none => false
      | some bd' => l.all fun p => isW k p bd')
    | _, _ => false) = _
  rw [h]
theorem step_ok {w : Str} {r : List D} {bd bd' : Bnd} (h : stepW w r bd = some bd') (nd : (bd.map (·.1)).Nodup) : (bd'.map (·.1)).Nodup ∧ bd'.length ≤ bd.length + 1 := by
  unfold stepW at h
  split at h
  · split at h
    · split at h
      · injection h with h; subst h; exact ⟨nd, by omega⟩
      · cases h
    · cases h
  split at h
  · injection h with h; subst h
    exact ⟨by rw [flip_keys]; exact nd, by unfold flipN; rw [List.length_map]; omega⟩
  split at h
  · rcases r with _ | ⟨x, r⟩
    · cases h
    · cases x <;> first | (cases h; done) | skip
      rename_i i
      have h : (if (bd.lookup i).isSome = true then none else some (bd ++ [(i, true)])) = some bd' := h
      split at h
      · cases h
      · rename_i c
        injection h with h; subst h
        have c : bd.lookup i = none := by
          cases e : bd.lookup i with
          | none => rfl
          | some b => rw [e] at c; exact absurd rfl c
        exact ⟨nd_app nd (lookup_none c), by rw [List.length_append]; show bd.length + 1 ≤ _; omega⟩
  · injection h with h; subst h; exact ⟨nd, by omega⟩
theorem r_is_wide : Rd sp_is_wide N_is_wide t_is_wide := by
  rintro us μ Q ⟨d, rfl, rfl, o, q⟩
  walk_at "ev"
  refine ⟨small (by show 0 ≤ 10000; omega), ?_⟩
  walk_at "ev"
  refine ⟨small (by show 2 ≤ 10000; omega), ?_⟩
  walk_at "ev"
  refine ⟨small (by show 1 ≤ 10000; omega), ?_⟩
  refine while_by (fun m ρ μ => ∃ (st : List Itm) (b : Nat) (o2 o3 o4 o6 o7 : Option U), ρ = [some (.fz d), some (.ptr 0), o2, o3, o4, none, o6, o7] ∧ μ = [.lst (st.map itU)] ∧ b ≤ 21 ∧ Blk (·.1) 60 20 b st ∧ (∀ p ∈ st, okI p) ∧ isW 20 d [] = st.all (fun p => isW p.1 p.2.1 p.2.2) ∧ szI st ≤ m) (sizeOf d)
    ⟨[(20, d, [])], 1, none, none, none, none, none, rfl, rfl, by omega, ⟨[], [(20, d, [])], rfl, rfl, by simp, by simp⟩, by simp [o, okI], by simp, by simp [szI]⟩ ?_
  rintro m _ _ ⟨st, b, o2, o3, o4, o6, o7, rfl, rfl, hb, blk, ho, he, hm⟩ T k1 k2
  rcases List.eq_nil_or_concat st with rfl | ⟨st', it, e2⟩
  · rw [he] at q
    exact ⟨rfl, q⟩
  have e2 : st = st' ++ [it] := by simpa using e2
  subst e2
  obtain ⟨b', lb, hf, blk'⟩ := blk.pop
  obtain ⟨f, g, bd⟩ := it
  have hf : f + b' = 20 := hf
  obtain ⟨og, nd, lbd⟩ := ho (f, g, bd) (by simp)
  have og : Od 60 f g := og
  have nd : (List.map (fun p : Int × Bool => p.1) bd).Nodup := nd
  have lbd : List.length bd + f ≤ 20 := lbd
  obtain ⟨k, rfl⟩ : ∃ k, f = k + 1 := by
    cases f with
    | zero => cases og
    | succ k => exact ⟨k, rfl⟩
  have len := blk'.len
  walk_at "ev"
  refine ifT (by simp) ?_
  walk_at "ev"
  refine ⟨rfl, ?_⟩
  walk_at "ev"
  refine ⟨itU (k + 1, g, bd), by simp, ?_⟩
  have ed : ((st' ++ [(k + 1, g, bd)]).map itU).dropLast = st'.map itU := by
    rw [List.map_append]
    exact List.dropLast_concat
  rw [ed]
  walk_at "ev"
  refine ⟨rfl, ?_⟩
  walk_at "ev"
  refine ⟨⟨List.nodup_nil, rfl⟩, g, true, rfl, rfl, og.mono (Nat.le_refl _) (by omega), ⟨⟨Nat.zero_le _, rfl⟩, ?_⟩⟩
  rw [List.all_append] at he
  simp only [List.all_cons, List.all_nil, Bool.and_true] at he
  cases e : innB true g with
  | none =>
    rw [he, isW_none e, Bool.and_false] at q
    walk_at "ev"
    exact ⟨rfl, q⟩
  | some l =>
    obtain ⟨hl, hol, hsz⟩ := inn_od og e (by omega)
    obtain ⟨w, r, rfl⟩ : ∃ w r, g = .tup (.str w :: r) := by
      refine head_of ?_
      cases c : headB g with
      | true => rfl
      | false => rw [inn_head c] at e; cases e
    have hw : w ∈ wordsL := by
      cases tup_mem og _ List.mem_cons_self with
      | str _ _ h => exact h
    rw [isW_succ e] at he
    refine r_w3 (k := k) (bd := bd) hl (by omega) (by omega) hw nd e (o6 := o6) (o7 := o7) (fun bd' o6 o7 hst => ?_) (fun hst => ?_)
    · rw [hst] at he
      have he : isW 20 d [] = ((st'.all fun p => isW p.1 p.2.1 p.2.2) && l.all fun p => isW k p bd') := he
      obtain ⟨nd', len'⟩ := step_ok hst nd
      refine k1 (m - 1) _ _ ?_ ⟨st' ++ l.map (fun p => (k, p, bd')), b' + 2, _, _, _, _, _, rfl, rfl, by omega, blk'.push (by rw [List.length_map]; exact hl) (fun x mx => ?_), fun p mp => ?_, ?_, ?_⟩
      · have : 0 < szI (st' ++ [(k + 1, .tup (.str w :: r), bd)]) := by simp [szI]; omega
        omega
      · obtain ⟨p, _, rfl⟩ := List.mem_map.mp mx
        show k + (b' + 1) = 20
        omega
      · rcases List.mem_append.mp mp with mp | mp
        · exact ho p (List.mem_append_left _ mp)
        · obtain ⟨x, mx, rfl⟩ := List.mem_map.mp mp
          exact ⟨hol x mx, nd', by show bd'.length + k ≤ 20; omega⟩
      · rw [he, List.all_append, List.all_map]
        rfl
      · have s1 : szI (st' ++ [(k + 1, .tup (.str w :: r), bd)]) = szI st' + sizeOf (D.tup (.str w :: r)) := by simp [szI]
        have s2 : szI (st' ++ l.map fun p => (k, p, bd')) = szI st' + (l.map sizeOf).sum := by
          unfold szI
          rw [List.map_append, List.map_map, List.sum_append]
          rfl
        have := sum_sizes l
        omega
    · rw [hst, Bool.and_false] at he
      rw [he] at q
      exact ⟨rfl, q⟩
end K19
namespace K19
open PySem PySem.Spec PyProof.Rows L2 W3 CB MS M19
local macro_rules | `(tactic| walk_at "ev") => `(tactic| conv => whnf)
local macro_rules | `(tactic| walk_at "ix") => `(tactic| (refine ⟨_, rfl, ?_⟩; conv => whnf))
section
variable {w : Str} {r : List D} {ρ : Rho} {μ : Mu}
theorem d1_ev (z : V0 ρ (.tup (.str w :: r))) (h : 1 ≤ r.length) : EvE (w2 oIx (wVar 0) (wC (.int 1))) ρ μ (.fz (d1 r)) := by
  cases r with
  | nil => cases h
  | cons a r => exact ev_ix (ev_0 z) (ev_c _) at1
def d2 (r : List D) : D := r.getD 1 .non
theorem d2_ev (z : V0 ρ (.tup (.str w :: r))) (h : 2 ≤ r.length) : EvE (w2 oIx (wVar 0) (wC (.int 2))) ρ μ (.fz (d2 r)) := by
  rcases r with _ | ⟨a, _ | ⟨b, r⟩⟩
  · cases h
  · simp at h
  · exact ev_ix (ev_0 z) (ev_c _) at2
theorem d1_mem (h : 1 ≤ r.length) : d1 r ∈ (D.str w :: r) := by
  cases r with
  | nil => cases h
  | cons a r => simp [d1]
theorem d2_mem (h : 2 ≤ r.length) : d2 r ∈ (D.str w :: r) := by
  rcases r with _ | ⟨a, _ | ⟨b, r⟩⟩
  · cases h
  · simp at h
  · simp [d2]
theorem lenK {k : Int} (h : decide (((D.str w :: r).length : Int) = k) = true) : (r.length : Int) + 1 = k := len2 h
theorem w_in {L k : Nat} (o : Od L k (.tup (.str w :: r))) : w ∈ wordsL := by
  cases o with
  | tup _ _ _ h =>
    cases h _ List.mem_cons_self with
    | str _ _ h => exact h
end
theorem isS_eq (n : Nat) (w : Str) (r : List D) : isS (n + 1) (.tup (.str w :: r)) =
    if decide (w = "same" ∨ w = "tied") = true then decide (((D.str w :: r).length : Int) = 3) && (whB (d1 r) && whB (d2 r))
    else if (!decide (((D.str w :: r).length : Int) = 2)) = true then false
    else if decide (w = "not" ∨ w = "some") = true then isS n (d1 r)
    else decide (w = "and") && (isTup (d1 r) && ((tupD (d1 r)).getD []).all (isS n)) := by
  have f : ∀ (k : Nat) (j : Int), j ≤ (k : Int) + 3 → ¬ (((k + 1 + 1 + 1 + 1 : Nat) : Int) = j) := fun k j h z => by omega
  rcases r with _ | ⟨a, _ | ⟨b, _ | ⟨c, r⟩⟩⟩
  · simp [isS]
  · simp only [isS, d1, d2, List.getD_cons_zero, List.length_cons, List.length_nil]
    by_cases c1 : w = "same" ∨ w = "tied"
    · simp [c1]
    · rw [if_neg c1]
      simp [c1]
      by_cases c2 : w = "not" ∨ w = "some"
      · simp [c2]
      · rw [if_neg c2, if_neg c2]
        by_cases c3 : w = "and"
        · cases a <;> simp [c3, isTup, tupD]
        · simp [c3]
  · simp only [isS, d1, d2, List.getD_cons_zero, List.length_cons, List.length_nil]
    by_cases c1 : w = "same" ∨ w = "tied"
    · simp [c1]
    · rw [if_neg c1]
      simp [c1]
  · simp only [isS, List.length_cons]
    simp only [decide_eq_false (f r.length 3 (by omega)), decide_eq_false (f r.length 2 (by omega))]
    by_cases c1 : w = "same" ∨ w = "tied"
    · simp [c1]
    · rw [if_neg c1]
      simp [c1]
theorem isS_head {n : Nat} {d : D} (h : headB d = false) : isS (n + 1) d = false := by
  cases d with
  | tup ds =>
    cases ds with
    | nil => rfl
    | cons x r => cases x <;> first | rfl | cases h
  | _ => rfl
theorem r_iss (n : Nat) : Rd (spIS (n + 1)) N_is_sentence (t_is_sentence (spIS n)) := by
  rintro us μ Q ⟨d, rfl, rfl, o, hn, q⟩
  have z0 : V0 (startR N_is_sentence [.fz d]) d := rfl
  refine s_seqIf (ev_head o z0) (fun h => ?_) (fun h => ?_)
  · rw [isS_head (by simpa using h)] at q
    exact s_ret (ev_c _) ⟨rfl, q⟩
  obtain ⟨w, r, rfl⟩ := head_of (d := d) (by simpa using h)
  clear h
  have ho := tup_mem o
  have hw := w_in o
  rw [isS_eq] at q
  have big : ∀ {x : D}, x ∈ (D.str w :: r) → Od 7000 20 x := fun m => (ho _ m).mono (by omega) (by omega)
  refine s_seqIf (ev_B (ev_in2 hw (ev_x0 z0) (by decide +kernel))) (fun h => ?_) (fun h => ?_)
  · rw [if_pos h] at q
    refine s_ret (ev_andV (ev_eqI (ev_lenX z0) (ev_c _)) fun hl => ?_) ⟨rfl, q⟩
    have := lenK hl
    exact ev_andV (ev_fn1 (d1_ev z0 (by omega)) fun Q q => ⟨_, rfl, rfl, big (d1_mem (by omega)), q⟩) fun _ => ev_fn1 (d2_ev z0 (by omega)) fun Q q => ⟨_, rfl, rfl, big (d2_mem (by omega)), q⟩
  rw [if_neg (by rw [h]; decide)] at q
  refine s_seqIf (ev_B (ev_neI (ev_lenX z0) (ev_c _))) (fun h => ?_) (fun h => ?_)
  · rw [if_pos h] at q
    exact s_ret (ev_c _) ⟨rfl, q⟩
  rw [if_neg (by rw [h]; decide)] at q
  have hl : (r.length : Int) + 1 = 2 := lenK (w := w) (by simpa using h)
  refine s_seqIf (ev_B (ev_in2 hw (ev_x0 z0) (by decide +kernel))) (fun h => ?_) (fun h => ?_)
  · rw [if_pos h] at q
    exact s_ret (ev_fn1 (d1_ev z0 (by omega)) fun Q q => ⟨_, rfl, rfl, ho _ (d1_mem (by omega)), by omega, q⟩) ⟨rfl, q⟩
  rw [if_neg (by rw [h]; decide)] at q
  have o1 := ho _ (d1_mem (w := w) (r := r) (by omega))
  refine s_ret (ev_andV (ev_eqS (ev_x0 z0) (ev_c _)) fun _ => ev_andV (ev_isT o1 (d1_ev z0 (by omega))) fun h3 => ?_) ⟨rfl, q⟩
  have e1 := d1_ev (μ := []) z0 (by omega)
  cases e : d1 r <;> rw [e] at h3 <;> first | (cases h3; done) | skip
  rename_i xs
  rw [e] at e1 o1
  have := tup_len o1
  have all := ev_all (bs := xs.map (isS n)) (ρ := startR N_is_sentence [.fz (.tup (.str w :: r))]) (μ := []) ((ev_lcMap (vs := [1]) (i := 1) (te := wFn (spIS n) (wCons (wVar 1) wNil)) (fun x => .bl (isS n x)) e1 rfl (by omega) fun x mx => ?_).at (by rw [List.map_map]; rfl))
  · rw [List.all_map] at all
    exact all
  · refine ev_fn1 (ev_var rfl) fun Q q => ⟨x, rfl, rfl, ?_, by omega, q⟩
    cases n with
    | zero => cases o1
    | succ n => exact (tup_mem o1 x mx).mono (Nat.le_refl _) (by omega)
end K19
namespace K19
open PySem PySem.Spec PyProof.Rows L2 W3 CB MS M19
local macro_rules | `(tactic| walk_at "ev") => `(tactic| conv => whnf)
section
variable {w : Str} {r : List D} {ρ : Rho} {μ : Mu}
theorem ev_nilL : EvE (wLst false wNil) ρ μ (.fz (.lst [])) := fun Q q => ⟨small (by show 0 ≤ 10000; omega), q⟩
theorem ev_eqNil {e : XE} {l : List D} {L k : Nat} (he : EvE e ρ μ (.fz (.lst l))) (ho : ∀ x ∈ l, Od L k x) (hk : k ≤ 25) : EvE (w2 (oEq false) e (wLst false wNil)) ρ μ (.fz (.bl l.isEmpty)) :=
  ev_2 he ev_nilL fun Q q => eq_nilO ho hk false (Q := fun b => Q (.fz (.bl b)) μ) q
theorem ev_neNil {e : XE} {l : List D} {L k : Nat} (he : EvE e ρ μ (.fz (.lst l))) (ho : ∀ x ∈ l, Od L k x) (hk : k ≤ 25) : EvE (w2 (oEq true) e (wLst false wNil)) ρ μ (.fz (.bl (!l.isEmpty))) :=
  ev_2 he ev_nilL fun Q q => eq_nilO ho hk true (Q := fun b => Q (.fz (.bl b)) μ) q
theorem ev_eqN {e : XE} {d : D} {L k : Nat} (o : Od L k d) (hk : k ≤ 25) (ns : ∀ s, d ≠ .str s) (he : EvE e ρ μ (.fz d)) (w : Str) (hw : PyData.strOk w = true) : EvE (w2 (oEq false) e (wC (.str w))) ρ μ (.fz (.bl false)) :=
  ev_2 he (ev_c _) fun Q q => by
    have z := eq_no o hk ns w hw false (Q := fun b => Q (.fz (.bl b)) μ) q
    cases o with
    | str _ s _ => exact absurd rfl (ns s)
    | _ => exact z
theorem ev_neN {e : XE} {d : D} {L k : Nat} (o : Od L k d) (hk : k ≤ 25) (ns : ∀ s, d ≠ .str s) (he : EvE e ρ μ (.fz d)) (w : Str) (hw : PyData.strOk w = true) : EvE (w2 (oEq true) e (wC (.str w))) ρ μ (.fz (.bl true)) :=
  ev_2 he (ev_c _) fun Q q => by
    have z := eq_no o hk ns w hw true (Q := fun b => Q (.fz (.bl b)) μ) q
    cases o with
    | str _ s _ => exact absurd rfl (ns s)
    | _ => exact z
theorem ev_tail (z : V0 ρ (.tup (.str w :: r))) : EvE (wSl false (wVar 0) (wPart (wC (.int 1))) wNoPart) ρ μ (.fz (.tup r)) := fun Q q => ev_0 z _ (by
  have e : cutA (D.str w :: r) (some ((1 : Nat) : Int)) none = r := by rw [cut_from]; rfl
  show Q (.fz (.tup (cutA (D.str w :: r) (some ((1 : Nat) : Int)) none))) μ
  rw [e]
  exact q)
end
@[simp] theorem wn_true_not : ((("true" : Str)) = "not") = False := eq_false (by decide +kernel)
@[simp] theorem wn_true_and : ((("true" : Str)) = "and") = False := eq_false (by decide +kernel)
@[simp] theorem wn_true_can : ((("true" : Str)) = "can") = False := eq_false (by decide +kernel)
@[simp] theorem wn_true_name : ((("true" : Str)) = "name") = False := eq_false (by decide +kernel)
@[simp] theorem wn_true_least : ((("true" : Str)) = "least") = False := eq_false (by decide +kernel)
@[simp] theorem wn_true_most : ((("true" : Str)) = "most") = False := eq_false (by decide +kernel)
@[simp] theorem wn_not_true : ((("not" : Str)) = "true") = False := eq_false (by decide +kernel)
@[simp] theorem wn_not_and : ((("not" : Str)) = "and") = False := eq_false (by decide +kernel)
@[simp] theorem wn_not_can : ((("not" : Str)) = "can") = False := eq_false (by decide +kernel)
@[simp] theorem wn_not_name : ((("not" : Str)) = "name") = False := eq_false (by decide +kernel)
@[simp] theorem wn_not_least : ((("not" : Str)) = "least") = False := eq_false (by decide +kernel)
@[simp] theorem wn_not_most : ((("not" : Str)) = "most") = False := eq_false (by decide +kernel)
@[simp] theorem wn_and_true : ((("and" : Str)) = "true") = False := eq_false (by decide +kernel)
@[simp] theorem wn_and_not : ((("and" : Str)) = "not") = False := eq_false (by decide +kernel)
@[simp] theorem wn_and_can : ((("and" : Str)) = "can") = False := eq_false (by decide +kernel)
@[simp] theorem wn_and_name : ((("and" : Str)) = "name") = False := eq_false (by decide +kernel)
@[simp] theorem wn_and_least : ((("and" : Str)) = "least") = False := eq_false (by decide +kernel)
@[simp] theorem wn_and_most : ((("and" : Str)) = "most") = False := eq_false (by decide +kernel)
@[simp] theorem wn_can_true : ((("can" : Str)) = "true") = False := eq_false (by decide +kernel)
@[simp] theorem wn_can_not : ((("can" : Str)) = "not") = False := eq_false (by decide +kernel)
@[simp] theorem wn_can_and : ((("can" : Str)) = "and") = False := eq_false (by decide +kernel)
@[simp] theorem wn_can_name : ((("can" : Str)) = "name") = False := eq_false (by decide +kernel)
@[simp] theorem wn_can_least : ((("can" : Str)) = "least") = False := eq_false (by decide +kernel)
@[simp] theorem wn_can_most : ((("can" : Str)) = "most") = False := eq_false (by decide +kernel)
@[simp] theorem wn_name_true : ((("name" : Str)) = "true") = False := eq_false (by decide +kernel)
@[simp] theorem wn_name_not : ((("name" : Str)) = "not") = False := eq_false (by decide +kernel)
@[simp] theorem wn_name_and : ((("name" : Str)) = "and") = False := eq_false (by decide +kernel)
@[simp] theorem wn_name_can : ((("name" : Str)) = "can") = False := eq_false (by decide +kernel)
@[simp] theorem wn_name_least : ((("name" : Str)) = "least") = False := eq_false (by decide +kernel)
@[simp] theorem wn_name_most : ((("name" : Str)) = "most") = False := eq_false (by decide +kernel)
@[simp] theorem wn_least_true : ((("least" : Str)) = "true") = False := eq_false (by decide +kernel)
@[simp] theorem wn_least_not : ((("least" : Str)) = "not") = False := eq_false (by decide +kernel)
@[simp] theorem wn_least_and : ((("least" : Str)) = "and") = False := eq_false (by decide +kernel)
@[simp] theorem wn_least_can : ((("least" : Str)) = "can") = False := eq_false (by decide +kernel)
@[simp] theorem wn_least_name : ((("least" : Str)) = "name") = False := eq_false (by decide +kernel)
@[simp] theorem wn_least_most : ((("least" : Str)) = "most") = False := eq_false (by decide +kernel)
@[simp] theorem wn_most_true : ((("most" : Str)) = "true") = False := eq_false (by decide +kernel)
@[simp] theorem wn_most_not : ((("most" : Str)) = "not") = False := eq_false (by decide +kernel)
@[simp] theorem wn_most_and : ((("most" : Str)) = "and") = False := eq_false (by decide +kernel)
@[simp] theorem wn_most_can : ((("most" : Str)) = "can") = False := eq_false (by decide +kernel)
@[simp] theorem wn_most_name : ((("most" : Str)) = "name") = False := eq_false (by decide +kernel)
@[simp] theorem wn_most_least : ((("most" : Str)) = "least") = False := eq_false (by decide +kernel)
theorem nil_all (p : D → Bool) : ∀ l : List D, ((l.filter fun x => !p x).map fun x => x).isEmpty = l.all p
  | [] => rfl
  | x :: l => by
    have := nil_all p l
    rw [List.map_id'] at this ⊢
    cases c : p x <;> simp [c, List.filter_cons, this]
theorem fil_od {L k : Nat} {p : D → Bool} {l : List D} (h : ∀ x ∈ l, Od L k x) : ∀ x ∈ (l.filter p).map (fun x => x), Od L k x := fun x m => by
  rw [List.map_id'] at m
  exact h x (List.mem_filter.mp m).1
theorem isS_eq2 (n : Nat) (w : Str) (r : List D) : isS (n + 1) (.tup (.str w :: r)) =
    if decide (w = "same" ∨ w = "tied") = true then decide (((D.str w :: r).length : Int) = 3) && r.all whB
    else if decide (w = "not" ∨ w = "some") = true then decide (((D.str w :: r).length : Int) = 2) && isS n (d1 r)
    else if (!decide (w = "and") || (!decide (((D.str w :: r).length : Int) = 2) || !isTup (d1 r))) = true then false
    else ((tupD (d1 r)).getD []).all (isS n) := by
  rw [isS_eq]
  by_cases c1 : w = "same" ∨ w = "tied"
  · rw [if_pos (decide_eq_true c1), if_pos (decide_eq_true c1)]
    rcases r with _ | ⟨a, _ | ⟨b, _ | ⟨c, r⟩⟩⟩
    · rfl
    · rfl
    · simp [d1, d2]
    · have : ¬ (((D.str w :: a :: b :: c :: r).length : Int) = 3) := by simp only [List.length_cons]; omega
      rw [decide_eq_false this, Bool.false_and, Bool.false_and]
  · have n1 : ¬ (decide (w = "same" ∨ w = "tied") = true) := by simpa using c1
    rw [if_neg n1, if_neg n1]
    by_cases c2 : w = "not" ∨ w = "some"
    · rw [if_pos (decide_eq_true c2), if_pos (decide_eq_true c2)]
      cases decide (((D.str w :: r).length : Int) = 2) <;> rfl
    · have n2 : ¬ (decide (w = "not" ∨ w = "some") = true) := by simpa using c2
      rw [if_neg n2, if_neg n2]
      cases decide (((D.str w :: r).length : Int) = 2) <;> cases decide (w = "and") <;> cases isTup (d1 r) <;> rfl
theorem r_ls (n : Nat) : Rd (spLS (n + 1)) N__law_is_sentence (t__law_is_sentence (spLS n)) := by
  rintro us μ Q ⟨d, rfl, rfl, o, hn, q⟩
  have z0 : V0 (startR N__law_is_sentence [.fz d]) d := rfl
  refine s_seqIf (ev_head o z0) (fun h => ?_) (fun h => ?_)
  · rw [isS_head (by simpa using h)] at q
    exact s_ret (ev_c _) ⟨rfl, q⟩
  obtain ⟨w, r, rfl⟩ := head_of (d := d) (by simpa using h)
  clear h
  have ho := tup_mem o
  have hw := w_in o
  have len := tup_len o
  rw [List.length_cons] at len
  rw [isS_eq2] at q
  have big : ∀ {x : D}, x ∈ (D.str w :: r) → Od 7000 20 x := fun m => (ho _ m).mono (by omega) (by omega)
  refine s_seqIf (ev_B (ev_in2 hw (ev_x0 z0) (by decide +kernel))) (fun h => ?_) (fun h => ?_)
  · rw [if_pos h] at q
    refine s_ret (ev_andV (ev_eqI (ev_lenX z0) (ev_c _)) fun hl => ?_) ⟨rfl, q⟩
    have e := ev_eqNil (L := 60) (k := n) (ev_lcFil (ρ := startR N__law_is_sentence [.fz (.tup (.str w :: r))]) (μ := []) (i := 1) (vs := [1]) (tt := wOr (wNot (wTru (wFn sp__law_whole (wCons (wVar 1) wNil)))) (wB (w2 (oLt) (wVar 1) (wC (.int 0))))) (te := wVar 1) (fun x => !whB x) (fun x => x) (ev_tail z0) rfl (by omega) (fun x mx => ?_) (fun x mx _ => ev_var rfl)) (fil_od fun x mx => ho x (List.mem_cons_of_mem _ mx)) (by omega)
    · rw [nil_all] at e
      exact e
    · have ox := big (List.mem_cons_of_mem _ mx)
      refine (ev_or (x := !numB x) (y := !whB x) (ev_not (ev_tru (ev_fn1 (ev_var rfl) fun Q q => ⟨x, rfl, rfl, ox, q⟩))) fun hx => ?_).at ?_
      · cases x <;> first | (cases hx; done) | skip
        rename_i i
        refine (ev_B (ev_ltI (ev_var rfl) (ev_c _))).at ?_
        show decide (i < 0) = !decide (0 ≤ i)
        by_cases c : i < 0
        · rw [decide_eq_true c, decide_eq_false (by omega)]; rfl
        · rw [decide_eq_false c, decide_eq_true (by omega)]; rfl
      · cases x <;> rfl
  rw [if_neg (by rw [h]; decide)] at q
  refine s_seqIf (ev_B (ev_in2 hw (ev_x0 z0) (by decide +kernel))) (fun h => ?_) (fun h => ?_)
  · rw [if_pos h] at q
    refine s_ret (ev_andV (ev_eqI (ev_lenX z0) (ev_c _)) fun hl => ?_) ⟨rfl, q⟩
    have := lenK hl
    exact ev_fn1 (d1_ev z0 (by omega)) fun Q q => ⟨_, rfl, rfl, ho _ (d1_mem (by omega)), by omega, q⟩
  rw [if_neg (by rw [h]; decide)] at q
  refine s_seqIf (ev_or (ev_B (ev_neS (ev_x0 z0) (ev_c _))) fun _ => ev_or (ev_B (ev_neI (ev_lenX z0) (ev_c _))) fun h2 => by
    have := lenK (w := w) (r := r) (k := 2) (by simpa using h2)
    exact ev_not (ev_tru (ev_isT (ho _ (d1_mem (by omega))) (d1_ev z0 (by omega))))) (fun h => ?_) (fun h => ?_)
  · rw [if_pos h] at q
    exact s_ret (ev_c _) ⟨rfl, q⟩
  rw [if_neg (by rw [h]; decide)] at q
  simp only [Bool.or_eq_false_iff, Bool.not_eq_false'] at h
  obtain ⟨_, h2, h3⟩ := h
  have hl := lenK h2
  have o1 := ho _ (d1_mem (w := w) (r := r) (by omega))
  have e1 := d1_ev (μ := []) z0 (by omega)
  cases e : d1 r <;> rw [e] at h3 <;> first | (cases h3; done) | skip
  rename_i xs
  rw [e] at e1 o1 q
  have := tup_len o1
  have ox : ∀ x ∈ xs, Od 60 n x := fun x mx => by
    cases n with
    | zero => cases o1
    | succ n => exact (tup_mem o1 x mx).mono (Nat.le_refl _) (by omega)
  have e := ev_eqNil (L := 60) (k := n) (ev_lcFil (ρ := startR N__law_is_sentence [.fz (.tup (.str w :: r))]) (μ := []) (i := 1) (vs := [1]) (tt := wNot (wTru (wFn (spLS n) (wCons (wVar 1) wNil)))) (te := wVar 1) (fun x => !isS n x) (fun x => x) e1 rfl (by omega) (fun x mx => ev_not (ev_tru (ev_fn1 (ev_var rfl) fun Q q => ⟨x, rfl, rfl, ox x mx, by omega, q⟩))) (fun x mx _ => ev_var rfl)) (fil_od ox) (by omega)
  rw [nil_all] at e
  exact s_ret e ⟨rfl, q⟩
theorem isF_eq2 (n : Nat) (w : Str) (r : List D) : isF (n + 1) (.tup (.str w :: r)) =
    if decide (w = "true") = true then decide (((D.str w :: r).length : Int) = 1)
    else if decide (w = "not") = true then decide (((D.str w :: r).length : Int) = 2) && isF n (d1 r)
    else if decide (w = "and") = true then (if (!decide (((D.str w :: r).length : Int) = 2) || !isTup (d1 r)) = true then false else ((tupD (d1 r)).getD []).all (isF n))
    else if (!decide (w = "can") || (!decide (((D.str w :: r).length : Int) = 3) || !isStr (d1 r))) = true then false
    else wordB (d1 r) && isF n (d2 r) := by
  show (match innT false w r with
    | none => false
    | some l => l.all (isF n)) = _
  have f : ∀ (k : Nat) (j : Int), j ≤ (k : Int) + 3 → ¬ (((k + 1 + 1 + 1 + 1 : Nat) : Int) = j) := fun k j h z => by omega
  by_cases c1 : w = "true"
  · subst c1
    rw [if_pos (by decide +kernel)]
    rcases r with _ | ⟨a, _ | ⟨b, _ | ⟨c, r⟩⟩⟩
    · simp [innT]
    · simp [innT]
    · simp [innT]
    · simp only [innT, List.length_cons, decide_eq_false (f r.length 1 (by omega))]
  rw [if_neg (by simpa using c1)]
  by_cases c2 : w = "not"
  · subst c2
    rw [if_pos (by decide +kernel)]
    rcases r with _ | ⟨a, _ | ⟨b, _ | ⟨c, r⟩⟩⟩
    · simp [innT]
    · simp [innT, d1]
    · simp [innT]
    · simp only [innT, List.length_cons, decide_eq_false (f r.length 2 (by omega))]
      rfl
  rw [if_neg (by simpa using c2)]
  by_cases c3 : w = "and"
  · subst c3
    rw [if_pos (by decide +kernel)]
    rcases r with _ | ⟨a, _ | ⟨b, _ | ⟨c, r⟩⟩⟩
    · simp [innT]
    · cases a <;> simp [innT, d1, tupD, isTup]
    · simp [innT]
    · simp only [innT, List.length_cons, decide_eq_false (f r.length 2 (by omega))]
      rfl
  rw [if_neg (by simpa using c3)]
  by_cases c4 : w = "can"
  · subst c4
    rcases r with _ | ⟨a, _ | ⟨b, _ | ⟨c, r⟩⟩⟩
    · simp [innT]
    · simp [innT]
    · cases a <;> simp [innT, d1, d2, wordB, isStr]
      rename_i x
      by_cases cx : x ∈ labS <;> simp [cx]
    · simp only [innT, List.length_cons, decide_eq_false (f r.length 3 (by omega))]
      rfl
  · rw [if_pos (by simp [c4])]
    rcases r with _ | ⟨a, _ | ⟨b, _ | ⟨c, r⟩⟩⟩ <;> simp [innT, c1, c2, c3, c4]
end K19
namespace K19
open PySem PySem.Spec PyProof.Rows L2 W3 CB MS M19
local macro_rules | `(tactic| walk_at "ev") => `(tactic| conv => whnf)
theorem ev_inL {ρ : Rho} {μ : Mu} {e f : XE} {d : D} {L k : Nat} (o : Od L k d) (hs : isStr d = true) (he : EvE e ρ μ (.fz d)) (hf : EvE f ρ μ (.fz letters5)) : EvE (w2 (oIn false) e f) ρ μ (.fz (.bl (wordB d))) := by
  cases o <;> first | (cases hs; done) | skip
  rename_i s hw
  exact ev_2 he hf fun Q q => in_wordsL hw labS (by decide +kernel) (Q := fun b => Q (.fz (.bl b)) μ) q
theorem notstr {x : D} (h : isStr x = false) : ∀ s, x ≠ .str s := fun s e => by rw [e] at h; cases h
theorem isF_no {n : Nat} {x : D} {r : List D} (h : isStr x = false) : isF (n + 1) (.tup (x :: r)) = false := by
  show (match innB false (.tup (x :: r)) with
    | none => false
    | some l => l.all (isF n)) = _
  rw [inn_head (by cases x <;> first | rfl | cases h)]
theorem r_lf (n : Nat) : Rd (spLF (n + 1)) N__law_is_formula (t__law_is_formula (spLF n)) := by
  rintro us μ Q ⟨d, rfl, rfl, o, hn, q⟩
  have z0 : V0 (startR N__law_is_formula [.fz d, .fz letters5]) d := rfl
  have v1 : EvE (wVar 1) (startR N__law_is_formula [.fz d, .fz letters5]) [] (.fz letters5) := ev_var rfl
  cases o with
  | tup _ ds hl ho =>
    cases ds with
    | nil => exact ⟨rfl, _, rfl, ⟨rfl, q⟩⟩
    | cons x r =>
      have ne0 : ¬ (((x :: r).length : Int) = 0) := by rw [List.length_cons]; omega
      refine s_seqIf ((ev_or (x := false) (ev_not (ev_tru (b := true) (ev_isi (ev_0 z0) rfl))) fun _ => ev_B (ev_eqI (ev_lenX z0) (ev_c _))).at (b' := false) (by rw [decide_eq_false ne0]; rfl)) (fun h => by cases h) (fun _ => ?_)
      cases hx : isStr x with
      | false =>
        have ns := notstr hx
        rw [isF_no hx] at q
        have ox := ho x List.mem_cons_self
        have e0 : EvE x0 (startR N__law_is_formula [.fz (.tup (x :: r)), .fz letters5]) [] (.fz x) := ev_ix (ev_0 z0) (ev_c _) at0
        refine s_seqIf (ev_B (ev_eqN ox (by omega) ns e0 "true" (by decide +kernel))) (fun h => by cases h) (fun _ => ?_)
        refine s_seqIf (ev_B (ev_eqN ox (by omega) ns e0 "not" (by decide +kernel))) (fun h => by cases h) (fun _ => ?_)
        refine s_seqIf (ev_B (ev_eqN ox (by omega) ns e0 "and" (by decide +kernel))) (fun h => by cases h) (fun _ => ?_)
        refine s_seqIf (ev_or (x := true) (y := false) (ev_B (ev_neN ox (by omega) ns e0 "can" (by decide +kernel))) fun h => by cases h) (fun h => ?_) (fun h => by cases h)
        exact s_ret (ev_c _) ⟨rfl, q⟩
      | true =>
        cases x <;> first | (cases hx; done) | skip
        rename_i w
        clear hx ne0
        have len : (D.str w :: r).length ≤ 60 := hl
        rw [List.length_cons] at len
        rw [isF_eq2] at q
        refine s_seqIf (ev_W0 z0) (fun h => ?_) (fun h => ?_)
        · rw [if_pos h] at q
          exact s_ret (ev_eqI (ev_lenX z0) (ev_c _)) ⟨rfl, q⟩
        rw [if_neg (by rw [h]; decide)] at q
        refine s_seqIf (ev_W0 z0) (fun h => ?_) (fun h => ?_)
        · rw [if_pos h] at q
          refine s_ret (ev_andV (ev_eqI (ev_lenX z0) (ev_c _)) fun hl => ?_) ⟨rfl, q⟩
          have := lenK hl
          exact ev_fn2 (d1_ev z0 (by omega)) v1 fun Q q => ⟨_, rfl, rfl, ho _ (d1_mem (by omega)), by omega, q⟩
        rw [if_neg (by rw [h]; decide)] at q
        refine s_seqIf (ev_W0 z0) (fun h => ?_) (fun h => ?_)
        · rw [if_pos h] at q
          refine s_seqIf (ev_or (ev_B (ev_neI (ev_lenX z0) (ev_c _))) fun h2 => by
            have := lenK (w := w) (r := r) (k := 2) (by simpa using h2)
            exact ev_not (ev_tru (ev_isT (ho _ (d1_mem (by omega))) (d1_ev z0 (by omega))))) (fun h => ?_) (fun h => ?_)
          · rw [if_pos h] at q
            exact s_ret (ev_c _) ⟨rfl, q⟩
          rw [if_neg (by rw [h]; decide)] at q
          simp only [Bool.or_eq_false_iff, Bool.not_eq_false'] at h
          obtain ⟨h2, h3⟩ := h
          have hl := lenK h2
          have o1 := ho _ (d1_mem (w := w) (r := r) (by omega))
          have e1 := d1_ev (μ := []) z0 (by omega)
          cases e : d1 r <;> rw [e] at h3 <;> first | (cases h3; done) | skip
          rename_i xs
          rw [e] at e1 o1 q
          have := tup_len o1
          have ox : ∀ x ∈ xs, Od 60 n x := fun x mx => by
            cases n with
            | zero => cases o1
            | succ n => exact (tup_mem o1 x mx).mono (Nat.le_refl _) (by omega)
          have e := ev_eqNil (L := 60) (k := n) (ev_lcFil (ρ := startR N__law_is_formula [.fz (.tup (.str w :: r)), .fz letters5]) (μ := []) (i := 2) (vs := [2]) (tt := wNot (wTru (wFn (spLF n) (wCons (wVar 2) (wCons (wVar 1) wNil))))) (te := wVar 2) (fun x => !isF n x) (fun x => x) e1 rfl (by omega) (fun x mx => ev_not (ev_tru (ev_fn2 (ev_var rfl) (ev_var rfl) fun Q q => ⟨x, rfl, rfl, ox x mx, by omega, q⟩))) (fun x mx _ => ev_var rfl)) (fil_od ox) (by omega)
          rw [nil_all] at e
          exact s_ret e ⟨rfl, q⟩
        rw [if_neg (by rw [h]; decide)] at q
        refine s_seqIf (ev_or (ev_B (ev_neS (ev_x0 z0) (ev_c _))) fun _ => ev_or (ev_B (ev_neI (ev_lenX z0) (ev_c _))) fun h2 => by
          have := lenK (w := w) (r := r) (k := 3) (by simpa using h2)
          exact ev_not (ev_tru (ev_isS (ho _ (d1_mem (by omega))) (d1_ev z0 (by omega))))) (fun h => ?_) (fun h => ?_)
        · rw [if_pos h] at q
          exact s_ret (ev_c _) ⟨rfl, q⟩
        rw [if_neg (by rw [h]; decide)] at q
        simp only [Bool.or_eq_false_iff, Bool.not_eq_false'] at h
        obtain ⟨_, h2, h3⟩ := h
        have hl := lenK h2
        exact s_ret (ev_andV (ev_inL (ho _ (d1_mem (w := w) (r := r) (by omega))) h3 (d1_ev z0 (by omega)) v1) fun _ => ev_fn2 (d2_ev z0 (by omega)) v1 fun Q q => ⟨_, rfl, rfl, ho _ (d2_mem (by omega)), by omega, q⟩) ⟨rfl, q⟩
  | _ => exact ⟨rfl, _, rfl, ⟨rfl, q⟩⟩
/-! wide formulas -/
def dInt : D → Int
  | .int i => i
  | _ => 0
theorem isW_eq2 (n : Nat) (w : Str) (r : List D) (bd : Bnd) (hk : ∀ p ∈ bd, 0 ≤ p.1 ∧ p.1 < 6) : isW (n + 1) (.tup (.str w :: r)) bd =
    if decide (w = "true") = true then decide (((D.str w :: r).length : Int) = 1)
    else if decide (w = "not") = true then decide (((D.str w :: r).length : Int) = 2) && isW n (d1 r) (flipN bd)
    else if decide (w = "and") = true then (if (!decide (((D.str w :: r).length : Int) = 2) || !isTup (d1 r)) = true then false else ((tupD (d1 r)).getD []).all fun p => isW n p bd)
    else if decide (w = "can") = true then (if (!decide (((D.str w :: r).length : Int) = 3) || !isStr (d1 r)) = true then false else wordB (d1 r) && isW n (d2 r) bd)
    else if decide (w = "name") = true then decide (((D.str w :: r).length : Int) = 2) && (numB (d1 r) && decide (bd.lookup (dInt (d1 r)) = some true))
    else if (!decide (w = "least" ∨ w = "most") || (!decide (((D.str w :: r).length : Int) = 3) || (!numB (d1 r) || !(decide (0 ≤ dInt (d1 r)) && decide (dInt (d1 r) ≤ 5))))) = true then false
    else if (bd.lookup (dInt (d1 r))).isSome = true then false
    else isW n (d2 r) (bd ++ [(dInt (d1 r), true)]) := by
  have f : ∀ (k : Nat) (j : Int), j ≤ (k : Int) + 3 → ¬ (((k + 1 + 1 + 1 + 1 : Nat) : Int) = j) := fun k j h z => by omega
  have body : isW (n + 1) (.tup (.str w :: r)) bd = match innT true w r with
    | none => false
    | some l => match stepW w r bd with
      | none => false
      | some bd' => l.all fun p => isW n p bd' := by
    cases e : innT true w r with
    | none => exact isW_none (d := .tup (.str w :: r)) e
    | some l => exact isW_succ (w := w) (r := r) e
  have lk : ∀ i, bd.lookup i = some true → 0 ≤ i ∧ i < 6 := by
    clear body
    induction bd with
    | nil => intro i h; cases h
    | cons p bd ih =>
      intro i h
      obtain ⟨j, b⟩ := p
      rw [List.lookup_cons] at h
      cases c : (i == j) with
      | true =>
        have : i = j := eq_of_beq c
        subst this
        exact hk (i, b) List.mem_cons_self
      | false =>
        rw [c] at h
        exact ih (fun p m => hk p (List.mem_cons_of_mem _ m)) i h
  rw [body]
  by_cases c1 : w = "true"
  · subst c1
    rw [if_pos (by decide +kernel)]
    rcases r with _ | ⟨a, _ | ⟨b, _ | ⟨c, r⟩⟩⟩
    · simp [innT, stepW]
    · simp [innT]
    · simp [innT]
    · simp only [innT, List.length_cons, decide_eq_false (f r.length 1 (by omega))]
  have n1 : ¬ (decide (w = "true") = true) := by simpa using c1
  rw [if_neg n1]
  by_cases c2 : w = "not"
  · subst c2
    rw [if_pos (by decide +kernel)]
    rcases r with _ | ⟨a, _ | ⟨b, _ | ⟨c, r⟩⟩⟩
    · simp [innT]
    · simp [innT, d1, stepW]
    · simp [innT]
    · simp only [innT, List.length_cons, decide_eq_false (f r.length 2 (by omega))]
      rfl
  have n2 : ¬ (decide (w = "not") = true) := by simpa using c2
  rw [if_neg n2]
  by_cases c3 : w = "and"
  · subst c3
    rw [if_pos (by decide +kernel)]
    rcases r with _ | ⟨a, _ | ⟨b, _ | ⟨c, r⟩⟩⟩
    · simp [innT]
    · cases a <;> simp [innT, d1, tupD, isTup, stepW]
    · simp [innT]
    · simp only [innT, List.length_cons, decide_eq_false (f r.length 2 (by omega))]
      rfl
  have n3 : ¬ (decide (w = "and") = true) := by simpa using c3
  rw [if_neg n3]
  by_cases c4 : w = "can"
  · subst c4
    rw [if_pos (by decide +kernel)]
    rcases r with _ | ⟨a, _ | ⟨b, _ | ⟨c, r⟩⟩⟩
    · simp [innT]
    · simp [innT]
    · cases a <;> simp [innT, d1, d2, wordB, isStr]
      rename_i x
      by_cases cx : x ∈ labS <;> simp [cx, stepW]
    · simp only [innT, List.length_cons, decide_eq_false (f r.length 3 (by omega))]
      rfl
  have n4 : ¬ (decide (w = "can") = true) := by simpa using c4
  rw [if_neg n4]
  by_cases c5 : w = "name"
  · subst c5
    rw [if_pos (by decide +kernel)]
    rcases r with _ | ⟨a, _ | ⟨b, _ | ⟨c, r⟩⟩⟩
    · simp [innT]
    · cases a <;> simp [innT, d1, numB, belB, dInt]
      rename_i i
      by_cases ci : bd.lookup i = some true
      · obtain ⟨i0, i6⟩ := lk i ci
        simp [ci, i0, i6, stepW]
      · rw [decide_eq_false ci]
        split
        · rfl
        · rename_i l hl
          have : stepW "name" [.int i] bd = none := by
            show (if bd.lookup i = some true then some bd else none) = none
            rw [if_neg ci]
          rw [this]
    · simp [innT]
    · simp only [innT, List.length_cons, decide_eq_false (f r.length 2 (by omega))]
      rfl
  have n5 : ¬ (decide (w = "name") = true) := by simpa using c5
  rw [if_neg n5]
  by_cases c6 : w = "least" ∨ w = "most"
  · rcases r with _ | ⟨a, _ | ⟨b, _ | ⟨c, r⟩⟩⟩
    · simp [innT, c1]
    · simp [innT, c2, c3, c5]
    · have nn : ∀ a : D, numB a = false → (match innT true w [a, b] with
          | none => false
          | some l => match stepW w [a, b] bd with
            | none => false
            | some bd' => l.all fun p => isW n p bd') = if (!decide (w = "least" ∨ w = "most") || (!decide ((([D.str w, a, b]).length : Int) = 3) || (!numB (d1 [a, b]) || !(decide (0 ≤ dInt (d1 [a, b])) && decide (dInt (d1 [a, b]) ≤ 5))))) = true then false
          else if (bd.lookup (dInt (d1 [a, b]))).isSome = true then false
          else isW n (d2 [a, b]) (bd ++ [(dInt (d1 [a, b]), true)]) := fun a ha => by
        have e2 : numB (d1 [a, b]) = false := ha
        rw [e2, if_pos (by simp)]
        have e3 : belB 6 a = false := by cases a <;> first | rfl | cases ha
        simp [innT, e3, c4]
      cases ha : numB a with
      | false => exact nn a ha
      | true =>
        cases a <;> first | (cases ha; done) | skip
        rename_i i
        have e1 : innT true w [.int i, b] = if (0 ≤ i ∧ i < 6) then some [b] else none := by
          simp [innT, c4, c6, belB]
        have st : stepW w [.int i, b] bd = (if (bd.lookup i).isSome then none else some (bd ++ [(i, true)])) := by
          unfold stepW
          rw [if_neg c5, if_neg c2, if_pos c6]
        rw [e1, st, decide_eq_true c6]
        show _ = if (!true || (!true || (!true || !(decide (0 ≤ i) && decide (i ≤ 5))))) = true then false else if (bd.lookup i).isSome = true then false else isW n b (bd ++ [(i, true)])
        by_cases ci : 0 ≤ i ∧ i ≤ 5
        · rw [if_pos (show 0 ≤ i ∧ i < 6 by omega), decide_eq_true ci.1, decide_eq_true ci.2]
          cases bd.lookup i with
          | none => exact Bool.and_true _
          | some x => rfl
        · rw [if_neg (show ¬ (0 ≤ i ∧ i < 6) by omega)]
          have : (decide (0 ≤ i) && decide (i ≤ 5)) = false := by
            rw [← Bool.not_eq_true, Bool.and_eq_true, decide_eq_true_iff, decide_eq_true_iff]
            exact ci
          rw [this]
          rfl
    · rw [if_pos (by simp only [List.length_cons, decide_eq_false (f r.length 3 (by omega))]; simp)]
      simp only [innT]
  · have n6 : (!decide (w = "least" ∨ w = "most")) = true := by simpa using c6
    rw [n6, Bool.true_or, if_pos rfl]
    rcases r with _ | ⟨a, _ | ⟨b, _ | ⟨c, r⟩⟩⟩
    · simp [innT, c1]
    · simp [innT, c2, c3, c5]
    · simp [innT, c4, c6]
    · simp [innT]
end K19
namespace K19
open PySem PySem.Spec PyProof.Rows L2 W3 CB MS M19
local macro_rules | `(tactic| walk_at "ev") => `(tactic| conv => whnf)
def relB (s : Bool) (lb : Bnd) : Bnd := lb.map fun p => (p.1, p.2 == s)
theorem rel_flip (s : Bool) (lb : Bnd) : flipN (relB s lb) = relB (!s) lb := by
  unfold flipN relB
  rw [List.map_map]
  apply List.map_congr_left
  intro p _
  obtain ⟨k, w⟩ := p
  cases w <;> cases s <;> rfl
theorem rel_app (s : Bool) (lb : Bnd) (k : Int) : relB s lb ++ [(k, true)] = relB s (lb ++ [(k, s)]) := by
  unfold relB
  rw [List.map_append]
  cases s <;> rfl
theorem rel_keys (s : Bool) (lb : Bnd) : (relB s lb).map (·.1) = lb.map (·.1) := by unfold relB; rw [List.map_map]; rfl
theorem rel_look (s : Bool) (i : Int) : ∀ lb : Bnd, (relB s lb).lookup i = (lb.lookup i).map (· == s)
  | [] => rfl
  | (j, b) :: lb => by
    have e : relB s ((j, b) :: lb) = (j, b == s) :: relB s lb := rfl
    rw [e, List.lookup_cons, List.lookup_cons, rel_look s i lb]
    cases i == j <;> rfl
/-- the ways of a number -/
def waysOf (i : Int) (lb : Bnd) : List Bool := (lb.filter fun p => decide (p.1 = i)).map (·.2)
theorem ways_one (i : Int) : ∀ {lb : Bnd}, (lb.map (·.1)).Nodup → waysOf i lb = match lb.lookup i with
    | none => []
    | some b => [b]
  | [], _ => rfl
  | (j, b) :: lb, nd => by
    rw [List.map_cons] at nd
    obtain ⟨h1, h2⟩ := List.nodup_cons.mp nd
    have ih := ways_one i h2
    rw [List.lookup_cons]
    by_cases c : j = i
    · subst c
      rw [show (j == j) = true by simp]
      have : (lb.filter fun p => decide (p.1 = j)) = [] := by
        rw [List.filter_eq_nil_iff]
        intro p m z
        exact h1 (List.mem_map.mpr ⟨p, m, of_decide_eq_true z⟩)
      unfold waysOf
      rw [List.filter_cons, if_pos (decide_eq_true rfl), this]
      rfl
    · rw [show (i == j) = false from beq_eq_false_iff_ne.mpr fun z => c z.symm]
      unfold waysOf at ih ⊢
      rw [List.filter_cons, if_neg (by simpa using c)]
      exact ih
abbrev rhoL (w : Str) (r : List D) (lb : Bnd) (s : Bool) : Rho := [some (.fz (.tup (.str w :: r))), some (.fz letters5), some (.fz (.lst (lb.map wayD))), some (.fz (.bl s)), none, none, none]
abbrev waysX : XE := wLc false (xSeq (wVar 2)) (gTupX 2 (gConsX (gSet 4) (gConsX (gSet 5) gNilX))) (wB (w2 (oEq false) (wVar 4) (w2 oIx (wVar 0) (wC (.int 1))))) (wVar 5) [4, 5]
section
variable {w : Str} {r : List D} {lb : Bnd} {s : Bool}
theorem ev_ways {i : Int} {r' : List D} (h60 : lb.length ≤ 60) : EvE waysX (rhoL w (.int i :: r') lb s) [] (.fz (.lst ((waysOf i lb).map .bl))) := fun Q q => by
  walk_at "ev"
  refine ⟨small (by rw [List.length_map, List.length_map]; omega), ?_⟩
  rw [List.map_map]
  refine compX_filter (fun p => decide (p.1 = i)) (fun p => .bl p.2) lb (fun p m Kt Kf k => ?_) ?_
  · walk_at "ev"
    refine ⟨rfl, ?_⟩
    walk_at "ev"
    refine ⟨_, at1, ?_⟩
    by_cases c : p.1 = i
    · rw [decide_eq_true c] at k
      exact ifT (decT c) k
    · rw [decide_eq_false c] at k
      exact ifF (decF c) k
  · have e : (waysOf i lb).map D.bl = (lb.filter fun p => decide (p.1 = i)).map fun p => .bl p.2 := by unfold waysOf; rw [List.map_map]; rfl
    rw [e] at q
    exact q
theorem od_bools {l : List Bool} : ∀ x ∈ l.map D.bl, Od 60 1 x := fun x m => by
  obtain ⟨b, _, rfl⟩ := List.mem_map.mp m
  exact .bl 0 b
theorem ev_ways_one {i : Int} {r' : List D} (h60 : lb.length ≤ 60) (nd : (lb.map (·.1)).Nodup) : EvE (w2 (oEq false) waysX (wLst false (wCons (wVar 3) wNil))) (rhoL w (.int i :: r') lb s) [] (.fz (.bl (decide ((relB s lb).lookup i = some true)))) := by
  have e := ev_ways (w := w) (r' := r') (s := s) (i := i) h60
  rw [ways_one i nd] at e
  rw [rel_look]
  refine ev_2 e (v := .fz (.lst [.bl s])) (fun Q q => ⟨small (by show 1 ≤ 10000; omega), q⟩) fun Q q => ?_
  cases c : lb.lookup i with
  | none =>
    rw [c] at q
    exact ⟨.list [], .list [.bool s], rfl, rfl, by decide +kernel, by cases s <;> decide +kernel, by cases s <;> exact q⟩
  | some b =>
    rw [c] at q
    exact ⟨.list [.bool b], .list [.bool s], rfl, rfl, by cases b <;> decide +kernel, by cases s <;> decide +kernel, by cases s <;> cases b <;> exact q⟩
theorem ev_ways_no {i : Int} {r' : List D} (h60 : lb.length ≤ 60) (nd : (lb.map (·.1)).Nodup) : EvE (w2 (oEq true) waysX (wLst false wNil)) (rhoL w (.int i :: r') lb s) [] (.fz (.bl ((relB s lb).lookup i).isSome)) := by
  have e := ev_neNil (ev_ways (w := w) (r' := r') (s := s) (i := i) h60) od_bools (by omega)
  rw [ways_one i nd] at e
  rw [rel_look]
  cases c : lb.lookup i <;> (rw [c] at e; exact e)
end
theorem num_d1 {r : List D} (h : numB (d1 r) = true) : ∃ i r', r = .int i :: r' ∧ dInt (d1 r) = i := by
  cases r with
  | nil => cases h
  | cons a r =>
    cases a <;> first | (cases h; done) | skip
    exact ⟨_, _, rfl, rfl⟩
theorem r_lw (n : Nat) : Rd (spLW (n + 1)) N__law_is_wide (t__law_is_wide (spLW n)) := by
  rintro us μ Q ⟨d, lb, s, rfl, rfl, o, hn, nd, hk, h60, q⟩
  have q : Q (.fz (.bl (isW (n + 1) d (relB s lb)))) [] := q
  have z0 : V0 (startR N__law_is_wide [.fz d, .fz letters5, .fz (.lst (lb.map wayD)), .fz (.bl s)]) d := rfl
  refine s_seqIf (ev_head o z0) (fun h => ?_) (fun h => ?_)
  · rw [isW_none (inn_head (by simpa using h))] at q
    exact s_ret (ev_c _) ⟨rfl, q⟩
  obtain ⟨w, r, rfl⟩ := head_of (d := d) (by simpa using h)
  clear h
  have ho := tup_mem o
  have hw := w_in o
  have len := tup_len o
  rw [List.length_cons] at len
  have big : ∀ {x : D}, x ∈ (D.str w :: r) → Od 7000 20 x := fun m => (ho _ m).mono (by omega) (by omega)
  have hk' : ∀ p ∈ relB s lb, 0 ≤ p.1 ∧ p.1 < 6 := fun p m => by
    unfold relB at m
    obtain ⟨p', m', rfl⟩ := List.mem_map.mp m
    exact hk p' m'
  rw [isW_eq2 n w r (relB s lb) hk'] at q
  have v1 : EvE (wVar 1) (rhoL w r lb s) [] (.fz letters5) := ev_var rfl
  have v2 : EvE (wVar 2) (rhoL w r lb s) [] (.fz (.lst (lb.map wayD))) := ev_var rfl
  have v3 : EvE (wVar 3) (rhoL w r lb s) [] (.fz (.bl s)) := ev_var rfl
  have z0 : V0 (rhoL w r lb s) (.tup (.str w :: r)) := rfl
  show wSeq _ _ _ (rhoL w r lb s) []
  refine s_seqIf (ev_W0 z0) (fun h => ?_) (fun h => ?_)
  · rw [if_pos h] at q
    exact s_ret (ev_eqI (ev_lenX z0) (ev_c _)) ⟨rfl, q⟩
  rw [if_neg (by rw [h]; decide)] at q
  refine s_seqIf (ev_W0 z0) (fun h => ?_) (fun h => ?_)
  · rw [if_pos h] at q
    refine s_ret (ev_andV (ev_eqI (ev_lenX z0) (ev_c _)) fun hl => ?_) ⟨rfl, q⟩
    have := lenK hl
    rw [rel_flip]
    exact ev_fn4 (d1_ev z0 (by omega)) v1 v2 (ev_notV v3) fun Q q => ⟨_, lb, !s, rfl, rfl, ho _ (d1_mem (by omega)), by omega, nd, hk, by omega, q⟩
  rw [if_neg (by rw [h]; decide)] at q
  refine s_seqIf (ev_W0 z0) (fun h => ?_) (fun h => ?_)
  · rw [if_pos h] at q
    refine s_seqIf (ev_or (ev_B (ev_neI (ev_lenX z0) (ev_c _))) fun h2 => by
      have := lenK (w := w) (r := r) (k := 2) (by simpa using h2)
      exact ev_not (ev_tru (ev_isT (ho _ (d1_mem (by omega))) (d1_ev z0 (by omega))))) (fun h => ?_) (fun h => ?_)
    · rw [if_pos h] at q
      exact s_ret (ev_c _) ⟨rfl, q⟩
    rw [if_neg (by rw [h]; decide)] at q
    simp only [Bool.or_eq_false_iff, Bool.not_eq_false'] at h
    obtain ⟨h2, h3⟩ := h
    have hl := lenK h2
    have o1 := ho _ (d1_mem (w := w) (r := r) (by omega))
    have e1 := d1_ev (μ := []) z0 (by omega)
    cases e : d1 r <;> rw [e] at h3 <;> first | (cases h3; done) | skip
    rename_i xs
    rw [e] at e1 o1 q
    have := tup_len o1
    have ox : ∀ x ∈ xs, Od 60 n x := fun x mx => by
      cases n with
      | zero => cases o1
      | succ n => exact (tup_mem o1 x mx).mono (Nat.le_refl _) (by omega)
    have e := ev_eqNil (L := 60) (k := n) (ev_lcFil (ρ := rhoL w r lb s) (μ := []) (i := 6) (vs := [6]) (tt := wNot (wTru (wFn (spLW n) (wCons (wVar 6) (wCons (wVar 1) (wCons (wVar 2) (wCons (wVar 3) wNil))))))) (te := wVar 6) (fun x => !isW n x (relB s lb)) (fun x => x) e1 rfl (by omega) (fun x mx => ev_not (ev_tru (ev_fn4 (ev_var rfl) (ev_var rfl) (ev_var rfl) (ev_var rfl) fun Q q => ⟨x, lb, s, rfl, rfl, ox x mx, by omega, nd, hk, by omega, q⟩))) (fun x mx _ => ev_var rfl)) (fil_od ox) (by omega)
    rw [nil_all] at e
    exact s_ret e ⟨rfl, q⟩
  rw [if_neg (by rw [h]; decide)] at q
  refine s_seqIf (ev_W0 z0) (fun h => ?_) (fun h => ?_)
  · rw [if_pos h] at q
    refine s_seqIf (ev_or (ev_B (ev_neI (ev_lenX z0) (ev_c _))) fun h2 => by
      have := lenK (w := w) (r := r) (k := 3) (by simpa using h2)
      exact ev_not (ev_tru (ev_isS (ho _ (d1_mem (by omega))) (d1_ev z0 (by omega))))) (fun h => ?_) (fun h => ?_)
    · rw [if_pos h] at q
      exact s_ret (ev_c _) ⟨rfl, q⟩
    rw [if_neg (by rw [h]; decide)] at q
    simp only [Bool.or_eq_false_iff, Bool.not_eq_false'] at h
    obtain ⟨h2, h3⟩ := h
    have hl := lenK h2
    exact s_ret (ev_andV (ev_inL (ho _ (d1_mem (w := w) (r := r) (by omega))) h3 (d1_ev z0 (by omega)) v1) fun _ => ev_fn4 (d2_ev z0 (by omega)) v1 v2 v3 fun Q q => ⟨_, lb, s, rfl, rfl, ho _ (d2_mem (by omega)), by omega, nd, hk, by omega, q⟩) ⟨rfl, q⟩
  rw [if_neg (by rw [h]; decide)] at q
  refine s_seqIf (ev_W0 z0) (fun h => ?_) (fun h => ?_)
  · rw [if_pos h] at q
    refine s_ret (ev_andV (ev_eqI (ev_lenX z0) (ev_c _)) fun hl => ?_) ⟨rfl, q⟩
    have := lenK hl
    refine ev_andV (ev_fn1 (d1_ev z0 (by omega)) fun Q q => ⟨_, rfl, rfl, big (d1_mem (by omega)), q⟩) fun hi => ?_
    obtain ⟨i, r', rfl, ei⟩ := num_d1 hi
    rw [ei]
    exact ev_ways_one (by omega) nd
  rw [if_neg (by rw [h]; decide)] at q
  refine s_seqIf (ev_or (ev_B (ev_nin2 hw (ev_x0 z0) (by decide +kernel))) fun _ => ev_or (ev_B (ev_neI (ev_lenX z0) (ev_c _))) fun h2 => by
    have := lenK (w := w) (r := r) (k := 3) (by simpa using h2)
    refine ev_or (y := !(decide (0 ≤ dInt (d1 r)) && decide (dInt (d1 r) ≤ 5))) (ev_not (ev_tru (ev_fn1 (d1_ev z0 (by omega)) fun Q q => ⟨_, rfl, rfl, big (d1_mem (by omega)), q⟩))) fun hi => ?_
    obtain ⟨i, r', rfl, ei⟩ := num_d1 (r := r) (by simpa using hi)
    rw [ei]
    exact ev_not (ev_B (ev_chain (ev_c _) (ev_ix (ev_0 z0) (ev_c _) at1) (fun Q q => q) (ev_c _) (fun Q q => q)))) (fun h => ?_) (fun h => ?_)
  · rw [if_pos h] at q
    exact s_ret (ev_c _) ⟨rfl, q⟩
  rw [if_neg (by rw [h]; decide)] at q
  simp only [Bool.or_eq_false_iff, Bool.not_eq_false', Bool.and_eq_true, decide_eq_true_eq] at h
  obtain ⟨_, h2, h3, h4⟩ := h
  have hl := lenK (w := w) (r := r) (k := 3) (decide_eq_true h2)
  obtain ⟨i, r', rfl, ei⟩ := num_d1 h3
  rw [ei] at q h4
  refine s_seqIf (ev_B (ev_ways_no (by omega) nd)) (fun h => ?_) (fun h => ?_)
  · rw [if_pos h] at q
    exact s_ret (ev_c _) ⟨rfl, q⟩
  rw [if_neg (by rw [h]; decide), rel_app] at q
  have nk : i ∉ lb.map (·.1) := by
    rw [← rel_keys s lb]
    refine lookup_none ?_
    cases e : (relB s lb).lookup i with
    | none => rfl
    | some b => rw [e] at h; cases h
  refine s_ret (ev_fn4 (d2_ev z0 (by omega)) v1 (d3 := .lst ((lb ++ [(i, s)]).map wayD)) (fun Q q => ?_) v3 fun Q q => ⟨_, lb ++ [(i, s)], s, rfl, rfl, ho _ (d2_mem (by omega)), by omega, nd_app nd nk, fun p m => ?_, by rw [List.length_append]; show lb.length + 1 + n ≤ 60; omega, q⟩) ⟨rfl, q⟩
  · rw [List.map_append] at q
    walk_at "ev"
    refine ⟨_, at1, ?_⟩
    walk_at "ev"
    refine ⟨small (by show 2 ≤ 10000; omega), ?_⟩
    walk_at "ev"
    refine ⟨small (by show 1 ≤ 10000; omega), ?_⟩
    walk_at "ev"
    exact ⟨small (by rw [List.length_map]; show lb.length + 1 ≤ 10000; omega), q⟩
  · rcases List.mem_append.mp m with m | m
    · exact hk p m
    · rw [List.mem_singleton] at m; subst m; exact ⟨h4.1, by show i < 6; omega⟩
end K19
namespace K19
open PySem PySem.Spec PyProof.Rows L2 W3 CB MS M19
local macro_rules | `(tactic| walk_at "ev") => `(tactic| conv => whnf)
/-! ### systems -/
theorem arr_of {n : Int} {d : D} (h : arrB n d = true) : ∃ i s j, d = .tup [.int i, .str s, .int j] := by
  unfold arrB at h
  split at h
  · rename_i a l b
    simp only [Bool.and_eq_true] at h
    obtain ⟨⟨_, h1⟩, h2⟩ := h
    cases a <;> first | (cases h1; done) | skip
    cases b <;> first | (cases h2; done) | skip
    exact ⟨_, _, _, rfl⟩
  · cases h
theorem getD_mem {as : List D} {k : Nat} (h : k < as.length) : as.getD k .non ∈ as := by
  rw [List.getD_eq_getElem?_getD, List.getElem?_eq_getElem h]
  exact List.getElem_mem h
abbrev subX (i : Nat) (k : Int) : XE := w2 oIx (wVar i) (wC (.int k))
abbrev lastX : XE := w2 (oSub) (wCall (c1 oLen) (wCons (subX 0 1) wNil)) (wC (.int 1))
abbrev ltX : XE := w2 (oLtM) (w2 oIx (subX 0 1) (wVar 2)) (w2 oIx (subX 0 1) (w2 (oAdd false) (wVar 2) (wC (.int 1))))
section
variable {n : Int} {as : List D} {u1 : Option U}
abbrev rhoS (n : Int) (as : List D) (u1 : Option U) : Rho := [some (.fz (.tup [.int n, .tup as])), u1, none]
theorem ev_as {u2 : Option U} : EvE (subX 0 1) [some (.fz (.tup [.int n, .tup as])), u1, u2] [] (.fz (.tup as)) := ev_ix (ev_var rfl) (ev_c _) rfl
theorem ev_last (h : as.length ≤ 10000) : EvE lastX (rhoS n as u1) [] (.fz (.int ((as.length : Int) - 1))) := ev_2 (ev_len ev_as) (ev_c _) fun Q q => q
theorem ev_lt (ha : ∀ x ∈ as, arrB n x = true) {k : Nat} (hk : k < as.length - 1) : EvE ltX ((wipeR (rhoS n as u1) [2]).set 2 (some (.fz (.int (k : Int))))) [] (.fz (.bl (ltD (as.getD k .non) (as.getD (k + 1) .non)))) := by
  have h1 := getD_mem (as := as) (k := k) (by omega)
  have h2 := getD_mem (as := as) (k := k + 1) (by omega)
  obtain ⟨i, s, j, e1⟩ := arr_of (ha _ h1)
  obtain ⟨i', s', j', e2⟩ := arr_of (ha _ h2)
  refine ev_2 (ev_ix (ev_ix (ev_var rfl) (ev_c _) rfl) (ev_var rfl) (at_getD (i := k) (by omega))) (ev_ix (ev_ix (ev_var rfl) (ev_c _) rfl) (ev_2 (w := .fz (.int ((k + 1 : Nat) : Int))) (ev_var rfl) (ev_c _) fun Q q => ?_) (at_getD (i := k + 1) (by omega))) fun Q q => ?_
  · rw [show ((k + 1 : Nat) : Int) = (k : Int) + 1 by omega] at q
    exact q
  · rw [e1, e2] at q ⊢
    exact ⟨⟨trivial, trivial, trivial, trivial⟩, q⟩
theorem up_toNat (as : List D) : (((as.length : Int) - 1).toNat) = as.length - 1 := by omega
end
theorem sys_no {d : D} {L k : Nat} (o : Od L k d) (h : lenB 2 d = false) : sysB d = false := by
  cases o with
  | tup k ds _ _ =>
    rcases ds with _ | ⟨a, _ | ⟨b, _ | ⟨c, r⟩⟩⟩
    · rfl
    · cases a <;> rfl
    · cases h
    · cases a <;> cases b <;> rfl
  | _ => rfl
theorem sys_num {a b : D} (h : numB a = false) : sysB (.tup [a, b]) = false := by
  cases a <;> first | rfl | cases h
theorem sys_tup {a b : D} (h : isTup b = false) : sysB (.tup [a, b]) = false := by
  cases a <;> cases b <;> first | rfl | cases h
theorem len_two {d : D} (h : lenB 2 d = true) : ∃ a b, d = .tup [a, b] := by
  cases d <;> first | (cases h; done) | skip
  rename_i ds
  rcases ds with _ | ⟨a, _ | ⟨b, _ | ⟨c, r⟩⟩⟩
  · cases h
  · cases h
  · exact ⟨a, b, rfl⟩
  · have h : decide (((a :: b :: c :: r).length : Int) = 2) = true := h
    have := of_decide_eq_true h
    simp only [List.length_cons] at this
    omega
theorem len_three {d : D} (h : lenB 3 d = true) : ∃ a b c, d = .tup [a, b, c] := by
  cases d <;> first | (cases h; done) | skip
  rename_i ds
  rcases ds with _ | ⟨a, _ | ⟨b, _ | ⟨c, _ | ⟨e, r⟩⟩⟩⟩
  · cases h
  · cases h
  · cases h
  · exact ⟨a, b, c, rfl⟩
  · have h : decide (((a :: b :: c :: e :: r).length : Int) = 3) = true := h
    have := of_decide_eq_true h
    simp only [List.length_cons] at this
    omega
theorem arr_len {n : Int} {d : D} (h : lenB 3 d = false) : arrB n d = false := by
  unfold arrB
  split
  · cases h
  · rfl
theorem arr_eq (n : Int) (a b c : D) : arrB n (.tup [a, b, c]) = (wordB b && belB n a && belB n c) := by
  cases b <;> simp [arrB, wordB]
theorem r_is_system : Rd sp_is_system N_is_system t_is_system := by
  rintro us μ Q ⟨d, rfl, rfl, o, q⟩
  have z0 : V0 (startR N_is_system [.fz d]) d := rfl
  cases h2 : lenB 2 d with
  | false =>
    rw [sys_no o h2] at q
    exact s_seqIf (ev_or (x := true) (y := false) ((ev_not (ev_tru (ev_tupl o (ev_0 z0)))).at (by rw [h2]; rfl)) fun z => by cases z) (fun _ => s_ret (ev_c _) ⟨rfl, q⟩) (fun z => by cases z)
  | true =>
    obtain ⟨a, b, rfl⟩ := len_two h2
    have ho := tup_mem o
    have oa : Od 7000 20 a := (ho a (by simp)).mono (Nat.le_refl _) (by omega)
    have ob : Od 7000 20 b := (ho b (by simp)).mono (Nat.le_refl _) (by omega)
    have x0 : EvE (subX 0 0) (startR N_is_system [.fz (.tup [a, b])]) [] (.fz a) := ev_ix (ev_0 z0) (ev_c _) rfl
    have x1 : EvE (subX 0 1) (startR N_is_system [.fz (.tup [a, b])]) [] (.fz b) := ev_ix (ev_0 z0) (ev_c _) rfl
    refine s_seqIf (ev_or (x := false) ((ev_not (ev_tru (ev_tupl o (ev_0 z0)))).at (by rw [h2]; rfl)) fun _ => ev_or (x := !numB a) (y := !(decide (1 ≤ dInt a) && decide (dInt a ≤ 12)) || !isTup b) (ev_not (ev_tru (ev_num oa x0))) fun hn => ev_or (ev_not (ev_B ?_)) fun _ => ev_not (ev_tru (ev_isT ob x1))) (fun h => ?_) (fun h => ?_)
    · cases a <;> first | (cases hn; done) | skip
      exact ev_chain (ev_c _) x0 (fun Q q => q) (ev_c _) (fun Q q => q)
    · have : sysB (.tup [a, b]) = false := by
        cases hn : numB a with
        | false => exact sys_num hn
        | true =>
          cases ht : isTup b with
          | false => exact sys_tup ht
          | true =>
            cases a <;> first | (cases hn; done) | skip
            cases b <;> first | (cases ht; done) | skip
            rename_i n as
            rw [hn, ht] at h
            have h : (false || (!true || (!(decide (1 ≤ n) && decide (n ≤ 12)) || !true))) = true := h
            show ((decide (1 ≤ n) && decide (n ≤ 12)) && _) = false
            cases hh : (decide (1 ≤ n) && decide (n ≤ 12)) with
            | false => rfl
            | true => rw [hh] at h; cases h
      rw [this] at q
      exact s_ret (ev_c _) ⟨rfl, q⟩
    · simp only [Bool.false_or, Bool.or_eq_false_iff, Bool.not_eq_false'] at h
      obtain ⟨hn, hr, ht⟩ := h
      cases a <;> first | (cases hn; done) | skip
      cases b <;> first | (cases ht; done) | skip
      rename_i n as
      have oas := tup_mem ob
      have las := tup_len ob
      have q : Q (.fz (.bl (as.all (arrB n) && upB as))) [] := by
        have e : sysB (.tup [.int n, .tup as]) = ((decide (1 ≤ n) && decide (n ≤ 12)) && (as.all (arrB n) && upB as)) := rfl
        have hr : (decide (1 ≤ n) && decide (n ≤ 12)) = true := hr
        rw [e, hr, Bool.true_and] at q
        exact q
      walk_at "ev"
      refine ⟨_, rfl, ?_⟩
      refine loop_by (e := fun x : D => .fz x) (xs := as) (fun r ρ μ => ∃ u1 done, ρ = rhoS n as u1 ∧ μ = [] ∧ as = done ++ r ∧ ∀ x ∈ done, arrB n x = true) ⟨none, [], rfl, rfl, rfl, fun x m => by cases m⟩ ?_ ?_
      · rintro _ _ ⟨u1, done, rfl, rfl, he, hd⟩
        rw [List.append_nil] at he
        subst he
        have al := ev_all (bs := (List.range (as.length - 1)).map fun k => ltD (as.getD k .non) (as.getD (k + 1) .non)) ((ev_lcRng (ρ := rhoS n as u1) (μ := []) (i := 2) (vs := [2]) (te := ltX) (fun k => .bl (ltD (as.getD k .non) (as.getD (k + 1) .non))) (ev_last (by omega)) (by omega) (up_toNat as) (by omega) (fun k hk => ev_lt hd hk)).at (by rw [List.map_map]; rfl))
        rw [show as.all (arrB n) = true from List.all_eq_true.mpr hd, Bool.true_and] at q
        rw [List.all_map] at al
        exact s_ret al ⟨rfl, q⟩
      · rintro x r _ _ ⟨u1, done, rfl, rfl, he, hd⟩ T k1 k2
        have mx : x ∈ as := by rw [he]; simp
        have ox : Od 7000 20 x := (oas x mx).mono (Nat.le_refl _) (by omega)
        have bad : arrB n x = false → Q (.fz (.bl false)) [] := fun z => by
          have : as.all (arrB n) = false := by
            rw [← Bool.not_eq_true]
            intro z2
            rw [List.all_eq_true.mp z2 x mx] at z
            cases z
          rw [this] at q
          exact q
        have vx : EvE (wVar 1) (rhoS n as (some (.fz x))) [] (.fz x) := ev_var rfl
        have vn : EvE (subX 0 0) (rhoS n as (some (.fz x))) [] (.fz (.int n)) := ev_ix (ev_var rfl) (ev_c _) rfl
        show wSeq _ _ _ (rhoS n as (some (.fz x))) []
        cases h3 : lenB 3 x with
        | false => exact s_seqIf (ev_or (x := true) (y := false) ((ev_not (ev_tru (ev_tupl ox vx))).at (by rw [h3]; rfl)) fun z => by cases z) (fun _ => s_ret (ev_c _) ⟨rfl, bad (arr_len h3)⟩) (fun z => by cases z)
        | true =>
          obtain ⟨a, b, c, rfl⟩ := len_three h3
          have oc : ∀ y ∈ [a, b, c], Od 7000 20 y := fun y my => (tup_mem ox y my).mono (Nat.le_refl _) (by omega)
          rw [arr_eq] at bad
          refine s_seqIf (ev_or (x := false) ((ev_not (ev_tru (ev_tupl ox vx))).at (by rw [h3]; rfl)) fun _ => ev_not (ev_tru (ev_word (oc b (by simp)) (ev_ix vx (ev_c _) rfl)))) (fun h => ?_) (fun h => ?_)
          · have : wordB b = false := by simpa using h
            exact s_ret (ev_c _) ⟨rfl, bad (by rw [this]; rfl)⟩
          have hb : wordB b = true := by simpa using h
          refine s_if (ev_or (ev_not (ev_tru (ev_below (oc a (by simp)) vn (ev_ix vx (ev_c _) rfl)))) fun _ => ev_not (ev_tru (ev_below (oc c (by simp)) vn (ev_ix vx (ev_c _) rfl)))) (fun h => ?_) (fun h => ?_)
          · refine s_ret (ev_c _) ⟨rfl, bad ?_⟩
            rw [hb]
            cases ha : belB n a <;> cases hc : belB n c <;> first | rfl | (rw [ha, hc] at h; cases h)
          · have : belB n a = true ∧ belB n c = true := by simpa using h
            refine k1 _ _ ⟨_, done ++ [.tup [a, b, c]], rfl, rfl, by rw [he, List.append_assoc]; rfl, fun y my => ?_⟩
            rcases List.mem_append.mp my with my | my
            · exact hd y my
            · rw [List.mem_singleton] at my
              subst my
              rw [arr_eq, hb, this.1, this.2]
              rfl
end K19
namespace K19
open PySem PySem.Spec PyProof.Rows L2 W3 CB MS M19
local macro_rules | `(tactic| walk_at "ev") => `(tactic| conv => whnf)
theorem words_f : ∀ s ∈ wordsL, s.length ≤ 10 ∧ decide (s ∈ labS) = decide ((s.length : Int) = 1) ∧ (s ∈ labS → (!decide (s.cps.toList < ("a" : Str).cps.toList)) = true ∧ (!decide (("e" : Str).cps.toList < s.cps.toList)) = true) := by decide +kernel
theorem ev_lenS {ρ : Rho} {μ : Mu} {a : XE} {s : Str} (ha : EvE a ρ μ (.fz (.str s))) (h : s.length ≤ 10000) : EvE (wCall (c1 oLen) (wCons a wNil)) ρ μ (.fz (.int s.length)) := fun Q q => ha _ ⟨small h, q⟩
theorem sys_len {ds : List D} (h : ¬ ((ds.length : Int) = 2)) : sysB (.tup ds) = false := by
  rcases ds with _ | ⟨a, _ | ⟨b, _ | ⟨c, r⟩⟩⟩
  · rfl
  · cases a <;> rfl
  · exact absurd rfl h
  · cases a <;> cases b <;> rfl
theorem r__law_is_system : Rd sp__law_is_system N__law_is_system t__law_is_system := by
  rintro us μ Q ⟨d, rfl, rfl, o, q⟩
  have z0 : V0 (startR N__law_is_system [.fz d]) d := rfl
  cases o with
  | tup k0 ds hl ho =>
    have oD := Od.tup (L := 7000) 19 ds hl ho
    by_cases h2 : (ds.length : Int) = 2
    · obtain ⟨a, b, e⟩ := len_two (d := .tup ds) (decide_eq_true h2)
      injection e with e
      subst e
      have oa : Od 7000 20 a := (ho a (by simp)).mono (Nat.le_refl _) (by omega)
      have ob : Od 7000 20 b := (ho b (by simp)).mono (Nat.le_refl _) (by omega)
      have x0 : EvE (subX 0 0) (startR N__law_is_system [.fz (.tup [a, b])]) [] (.fz a) := ev_ix (ev_0 z0) (ev_c _) rfl
      have x1 : EvE (subX 0 1) (startR N__law_is_system [.fz (.tup [a, b])]) [] (.fz b) := ev_ix (ev_0 z0) (ev_c _) rfl
      refine s_seqIf (ev_or (x := false) (ev_not (ev_tru (b := true) (ev_isi (ev_0 z0) rfl))) fun _ => ev_or (x := false) (ev_B (ev_neI (ev_lenX z0) (ev_c _))) fun _ => ev_or (x := !numB a) (y := !(decide (1 ≤ dInt a) && decide (dInt a ≤ 12))) (ev_not (ev_tru (ev_fn1 x0 fun Q q => ⟨a, rfl, rfl, oa, q⟩))) fun hn => ev_not (ev_B ?_)) (fun h => ?_) (fun h => ?_)
      · cases a <;> first | (cases hn; done) | skip
        exact ev_chain (ev_c _) x0 (fun Q q => q) (ev_c _) (fun Q q => q)
      · have : sysB (.tup [a, b]) = false := by
          cases hn : numB a with
          | false => exact sys_num hn
          | true =>
            cases ht : isTup b with
            | false => exact sys_tup ht
            | true =>
              cases a <;> first | (cases hn; done) | skip
              cases b <;> first | (cases ht; done) | skip
              rename_i n as
              rw [hn] at h
              have h : (false || (false || (!true || !(decide (1 ≤ n) && decide (n ≤ 12))))) = true := h
              show ((decide (1 ≤ n) && decide (n ≤ 12)) && _) = false
              cases hh : (decide (1 ≤ n) && decide (n ≤ 12)) with
              | false => rfl
              | true => rw [hh] at h; cases h
        rw [this] at q
        exact s_ret (ev_c _) ⟨rfl, q⟩
      · simp only [Bool.false_or, Bool.or_eq_false_iff, Bool.not_eq_false'] at h
        obtain ⟨hn, hr⟩ := h
        refine s_seqIf (ev_not (ev_tru (ev_isT ob x1))) (fun h => ?_) (fun h => ?_)
        · rw [sys_tup (by simpa using h)] at q
          exact s_ret (ev_c _) ⟨rfl, q⟩
        have ht : isTup b = true := by simpa using h
        cases a <;> first | (cases hn; done) | skip
        cases b <;> first | (cases ht; done) | skip
        rename_i n as
        have oas := tup_mem ob
        have las := tup_len ob
        have q : Q (.fz (.bl (as.all (arrB n) && upB as))) [] := by
          have e : sysB (.tup [.int n, .tup as]) = ((decide (1 ≤ n) && decide (n ≤ 12)) && (as.all (arrB n) && upB as)) := rfl
          have hr : (decide (1 ≤ n) && decide (n ≤ 12)) = true := hr
          rw [e, hr, Bool.true_and] at q
          exact q
        walk_at "ev"
        refine ⟨_, rfl, ?_⟩
        refine loop_by (e := fun x : D => .fz x) (xs := as) (fun r ρ μ => ∃ u1 done, ρ = rhoS n as u1 ∧ μ = [] ∧ as = done ++ r ∧ ∀ x ∈ done, arrB n x = true) ⟨none, [], rfl, rfl, rfl, fun x m => by cases m⟩ ?_ ?_
        · rintro _ _ ⟨u1, done, rfl, rfl, he, hd⟩
          rw [List.append_nil] at he
          subst he
          have lc := ev_lcRngF (ρ := rhoS n as u1) (μ := []) (i := 2) (vs := [2]) (te := wVar 2) (tt := wNot (wB ltX)) (fun k => !ltD (as.getD k .non) (as.getD (k + 1) .non)) (fun k => .int (k : Int)) (ev_last (by omega)) (by omega) (up_toNat as) (by omega) (fun k hk => ev_not (ev_B (ev_lt hd hk))) (fun k hk => ev_var rfl)
          have al := ev_eqNil (L := 1) (k := 1) lc (fun x m => by
            obtain ⟨k, _, rfl⟩ := List.mem_map.mp m
            exact .int 0 _) (by omega)
          have ne : (((List.range (as.length - 1)).filter fun k => !ltD (as.getD k .non) (as.getD (k + 1) .non)).map fun k : Nat => D.int (k : Int)).isEmpty = upB as := by
            unfold upB
            generalize List.range (as.length - 1) = l
            induction l with
            | nil => rfl
            | cons x l ih =>
              cases c : ltD (as.getD x .non) (as.getD (x + 1) .non) with
              | true => rw [List.filter_cons, if_neg (by rw [c]; decide), List.all_cons, c, ih]; rfl
              | false => rw [List.filter_cons, if_pos (by rw [c]; rfl), List.all_cons, c]; rfl
          rw [ne] at al
          rw [show as.all (arrB n) = true from List.all_eq_true.mpr hd, Bool.true_and] at q
          exact s_ret al ⟨rfl, q⟩
        · rintro x r _ _ ⟨u1, done, rfl, rfl, he, hd⟩ T k1 k2
          have mx : x ∈ as := by rw [he]; simp
          have ox : Od 7000 20 x := (oas x mx).mono (Nat.le_refl _) (by omega)
          have bad : arrB n x = false → Q (.fz (.bl false)) [] := fun z => by
            have : as.all (arrB n) = false := by
              rw [← Bool.not_eq_true]
              intro z2
              rw [List.all_eq_true.mp z2 x mx] at z
              cases z
            rw [this] at q
            exact q
          have vx : EvE (wVar 1) (rhoS n as (some (.fz x))) [] (.fz x) := ev_var rfl
          have vn : EvE (subX 0 0) (rhoS n as (some (.fz x))) [] (.fz (.int n)) := ev_ix (ev_var rfl) (ev_c _) rfl
          show wSeq _ _ _ (rhoS n as (some (.fz x))) []
          cases ht : isTup x with
          | false =>
            have : lenB 3 x = false := by cases x <;> first | rfl | cases ht
            exact s_seqIf (ev_or (x := true) (y := false) ((ev_not (ev_tru (ev_isT ox vx))).at (by rw [ht]; rfl)) fun z => by cases z) (fun _ => s_ret (ev_c _) ⟨rfl, bad (arr_len this)⟩) (fun z => by cases z)
          | true =>
            cases x <;> first | (cases ht; done) | skip
            rename_i es
            by_cases h3 : (es.length : Int) = 3
            case neg =>
              have : lenB 3 (.tup es) = false := decide_eq_false h3
              exact s_seqIf (ev_or (x := false) (y := true) ((ev_not (ev_tru (ev_isT ox vx))).at rfl) fun z => ev_or (x := true) (y := false) ((ev_B (ev_neI (ev_len vx) (ev_c _))).at (by rw [decide_eq_false h3]; rfl)) fun z => by cases z) (fun _ => s_ret (ev_c _) ⟨rfl, bad (arr_len this)⟩) (fun z => by cases z)
            obtain ⟨a, b, c, e⟩ := len_three (d := .tup es) (decide_eq_true h3)
            injection e with e
            subst e
            have oc : ∀ y ∈ [a, b, c], Od 7000 20 y := fun y my => (tup_mem ox y my).mono (Nat.le_refl _) (by omega)
            rw [arr_eq] at bad
            have ea : EvE (subX 1 0) (rhoS n as (some (.fz (.tup [a, b, c])))) [] (.fz a) := ev_ix vx (ev_c _) rfl
            have eb : EvE (subX 1 1) (rhoS n as (some (.fz (.tup [a, b, c])))) [] (.fz b) := ev_ix vx (ev_c _) rfl
            have ec : EvE (subX 1 2) (rhoS n as (some (.fz (.tup [a, b, c])))) [] (.fz c) := ev_ix vx (ev_c _) rfl
            have ob := oc b (by simp)
            cases hb : isStr b with
            | false =>
              have : wordB b = false := by cases b <;> first | rfl | cases hb
              exact s_seqIf (ev_or (x := false) (y := true) ((ev_not (ev_tru (ev_isT ox vx))).at rfl) fun z => ev_or (x := false) (y := true) ((ev_B (ev_neI (ev_len vx) (ev_c _))).at rfl) fun z => ev_or (x := true) (y := false) ((ev_not (ev_tru (ev_isS ob eb))).at (by rw [hb]; rfl)) fun z => by cases z) (fun _ => s_ret (ev_c _) ⟨rfl, bad (by rw [this]; rfl)⟩) (fun z => by cases z)
            | true =>
              cases b <;> first | (cases hb; done) | skip
              rename_i s
              have hs : s ∈ wordsL := by cases ob; assumption
              obtain ⟨l10, hlab, hle⟩ := words_f s hs
              have el : EvE (wCall (c1 oLen) (wCons (subX 1 1) wNil)) (rhoS n as (some (.fz (.tup [a, .str s, c])))) [] (.fz (.int s.length)) := ev_lenS eb (by omega)
              refine s_seqIf (ev_or (x := false) ((ev_not (ev_tru (ev_isT ox vx))).at rfl) fun z => ev_or (x := false) ((ev_B (ev_neI (ev_len vx) (ev_c _))).at rfl) fun z => ev_or (x := false) ((ev_not (ev_tru (ev_isS ob eb))).at rfl) fun z => ev_B (ev_neI el (ev_c _))) (fun h => ?_) (fun h => ?_)
              · have : wordB (.str s) = false := by
                  show decide (s ∈ labS) = false
                  rw [hlab]
                  simpa using h
                exact s_ret (ev_c _) ⟨rfl, bad (by rw [this]; rfl)⟩
              have hw : decide (s ∈ labS) = true := by
                rw [hlab]
                simpa using h
              obtain ⟨e1, e2⟩ := hle (of_decide_eq_true hw)
              have hw : wordB (.str s) = true := hw
              have chain : EvE (wChain (oLeS) (oLeS) (wC (.str "a")) (subX 1 1) (wC (.str "e"))) (rhoS n as (some (.fz (.tup [a, .str s, c])))) [] (.fz (.bl (true && true))) := ev_chain (ev_c _) eb (fun Q q => by
                show Q (.fz (.bl (!decide (s.cps.toList < ("a" : Str).cps.toList)))) []
                rw [e1]; exact q) (ev_c _) (fun Q q => by
                show Q (.fz (.bl (!decide (("e" : Str).cps.toList < s.cps.toList)))) []
                rw [e2]; exact q)
              refine s_seqIf (ev_or (x := false) ((ev_not (ev_B chain)).at rfl) fun z => ev_or (ev_not (ev_tru (ev_fn1 ea fun Q q => ⟨a, rfl, rfl, oc a (by simp), q⟩))) fun z => ev_not (ev_tru (ev_fn1 ec fun Q q => ⟨c, rfl, rfl, oc c (by simp), q⟩))) (fun h => ?_) (fun h => ?_)
              · refine s_ret (ev_c _) ⟨rfl, bad ?_⟩
                rw [hw]
                have : numB a = false ∨ numB c = false := by
                  cases x : numB a
                  · exact .inl rfl
                  · cases y : numB c
                    · exact .inr rfl
                    · rw [x, y] at h; cases h
                rcases this with z | z
                · have : belB n a = false := by cases a <;> first | rfl | cases z
                  rw [this]; rfl
                · have : belB n c = false := by cases c <;> first | rfl | cases z
                  rw [this, Bool.and_false]
              have hac : numB a = true ∧ numB c = true := by
                cases x : numB a <;> cases y : numB c <;> rw [x, y] at h <;> first | (cases h; done) | exact ⟨rfl, rfl⟩
              cases a <;> first | (cases hac.1; done) | skip
              cases c <;> first | (cases hac.2; done) | skip
              rename_i i j
              refine s_if (ev_or (x := !belB n (.int i)) (y := !belB n (.int j)) (ev_not (ev_B (ev_chain (ev_c _) ea (fun Q q => q) vn (fun Q q => q)))) fun _ => ev_not (ev_B (ev_chain (ev_c _) ec (fun Q q => q) vn (fun Q q => q)))) (fun h => ?_) (fun h => ?_)
              · refine s_ret (ev_c _) ⟨rfl, bad ?_⟩
                rw [hw]
                cases ha : belB n (.int i) <;> cases hc : belB n (.int j) <;> first | rfl | (rw [ha, hc] at h; cases h)
              · have : belB n (.int i) = true ∧ belB n (.int j) = true := by
                  cases ha : belB n (.int i) <;> cases hc : belB n (.int j) <;> first | exact ⟨rfl, rfl⟩ | (rw [ha, hc] at h; cases h)
                refine k1 _ _ ⟨_, done ++ [.tup [.int i, .str s, .int j]], rfl, rfl, by rw [he, List.append_assoc]; rfl, fun y my => ?_⟩
                rcases List.mem_append.mp my with my | my
                · exact hd y my
                · rw [List.mem_singleton] at my
                  subst my
                  rw [arr_eq, hw, this.1, this.2]
                  rfl
    · rw [sys_len h2] at q
      exact s_seqIf (ev_or (x := false) (y := true) (ev_not (ev_tru (b := true) (ev_isi (ev_0 z0) rfl))) fun _ => ev_or (x := true) (y := false) ((ev_B (ev_neI (ev_lenX z0) (ev_c _))).at (by rw [decide_eq_false h2]; rfl)) fun z => by cases z) (fun _ => s_ret (ev_c _) ⟨rfl, q⟩) (fun z => by cases z)
  | _ => exact ⟨rfl, _, rfl, ⟨rfl, q⟩⟩
end K19
namespace K19
open PySem PySem.Spec PyProof.Rows L2 W3 CB MS M19
local macro_rules | `(tactic| walk_at "ev") => `(tactic| conv => whnf)
local macro_rules | `(tactic| walk_at "ix") => `(tactic| (refine ⟨_, rfl, ?_⟩; conv => whnf))
local macro_rules | `(tactic| walk_at "is") => `(tactic| (refine ⟨rfl, true, rfl, ?_⟩; conv => whnf))
theorem od2 {L k : Nat} (hL : 2 ≤ L) {x y : D} (hx : Od L k x) (hy : Od L k y) : Od L (k + 1) (.tup [x, y]) := .tup _ _ hL fun d m => by
  simp only [List.mem_cons, List.not_mem_nil, or_false] at m
  rcases m with rfl | rfl
  · exact hx
  · exact hy
theorem od1 {L k : Nat} (hL : 1 ≤ L) {x : D} (hx : Od L k x) : Od L (k + 1) (.tup [x]) := .tup _ _ hL fun d m => by
  rw [List.mem_singleton] at m
  subst m; exact hx
theorem od3 {L k : Nat} (hL : 3 ≤ L) {x y z : D} (hx : Od L k x) (hy : Od L k y) (hz : Od L k z) : Od L (k + 1) (.tup [x, y, z]) := .tup _ _ hL fun d m => by
  simp only [List.mem_cons, List.not_mem_nil, or_false] at m
  rcases m with rfl | rfl | rfl
  · exact hx
  · exact hy
  · exact hz
theorem od_w {L k : Nat} {s : Str} (h : s ∈ wordsL := by decide +kernel) : Od L (k + 1) (.str s) := .str _ s h
theorem r_odd (n : Nat) : Rd (spOdd (n + 1)) N__law_odd (t__law_odd (spOdd n)) := by
  rintro us μ Q ⟨a, b, c, xs, d, rfl, rfl, h, hd, q⟩
  have rest : ∀ (m : Int), 6 ≤ m → m ≤ 9 → (0 < d ∨ m = 6) → ∀ (t : Nat) (a b c : Int), (t : Int) < m → BoxOk a b c xs → (wSeq (wIfS (wB (w2 (oEq false) (wVar 2) (wC (.int 0)))) (wSeq (wSet 3 (wLst false (wCons (wC .non) (wCons (wC (.bl true)) (wCons (wC (.bl false)) (wCons (wC (.str "")) (wCons (wC (.str "true")) (wCons (wC (.str "not")) (wCons (wC (.str "and")) (wCons (wC (.str "can")) (wCons (wC (.str "a")) (wCons (wC (.str "name")) (wCons (wC (.str "least")) (wCons (wC (.str "most")) (wCons (wC (.str "same")) (wCons (wC (.str "some")) wNil))))))))))))))))
  (wRet (wFn sp__law_pick (wCons (wVar 0) (wCons (wVar 3) wNil))))) wNext)
  (wSeq (wIfS (wB (w2 (oLt) (wVar 2) (wC (.int 6)))) (wRet (w2 (oSub) (wFn sp__law_take (wCons (wVar 0) (wCons (wC (.int 8)) wNil))) (wC (.int 1)))) wNext)
  (wRet (wCall (c1 oTuple) (wCons (wLc false (xRng1 (wCons (wFn sp__law_take (wCons (wVar 0) (wCons (wC (.int 4)) wNil))) wNil)) (gSet 4) wYes (wFn (spOdd n) (wCons (wVar 0) (wCons (w2 (oSub) (wVar 1) (wC (.int 1))) wNil))) [4]) wNil)))))
    ⟨fun _ μ' => back 1 Q (.fz .non) μ', back 1 Q, fun _ _ => False, fun _ _ => False⟩ [some (.ptr 0), some (.fz (natD d)), some (.fz (natD t)), none, none] [boxU a b c xs] := by
    intro m m6 m9 hm t a b c ht h
    walk_at "ev"
    by_cases c0 : (t : Int) = 0
    · refine ifT (decT c0) ?_
      walk_at "ev"
      refine ⟨small (by show 14 ≤ 10000; omega), ?_⟩
      walk_at "ev"
      refine ⟨⟨nd1, rfl⟩, a, b, c, xs, [.non, .bl true, .bl false, .str "", .str "true", .str "not", .str "and", .str "can", .str "a", .str "name", .str "least", .str "most", .str "same", .str "some"], rfl, rfl, h, (by intro z; cases z), (by show 14 ≤ 1000; omega), fun v a b c hv h => ⟨⟨Nat.le_refl _, rfl⟩, ?_⟩⟩
      refine ⟨rfl, q v a b c ?_ h⟩
      simp only [List.mem_cons, List.not_mem_nil, or_false] at hv
      rcases hv with rfl | rfl | rfl | rfl | rfl | rfl | rfl | rfl | rfl | rfl | rfl | rfl | rfl | rfl <;> first | exact .non _ | exact .bl _ _ | exact od_w
    refine ifF (decF c0) ?_
    walk_at "ev"
    by_cases c6 : (t : Int) < 6
    · refine ifT (decide_eq_true c6) ?_
      refine ⟨⟨nd1, rfl⟩, a, b, c, xs, 8, rfl, rfl, h, by omega, by omega, fun t a b c ht h => ⟨⟨Nat.le_refl _, rfl⟩, ?_⟩⟩
      exact ⟨rfl, q _ a b c (.int _ _) h⟩
    refine ifF (decide_eq_false c6) ?_
    walk_at "ev"
    refine ⟨⟨nd1, rfl⟩, a, b, c, xs, 4, rfl, rfl, h, by omega, by omega, fun many a b c hmany h => ⟨⟨Nat.le_refl _, rfl⟩, ?_⟩⟩
    walk_at "ev"
    refine ⟨by omega, ?_⟩
    rw [Int.toNat_natCast]
    refine ⟨small (by unfold upto; rw [List.length_map, List.length_range]; omega), ?_⟩
    refine comp_range (fun i acc μ => ∃ a b c : Int, μ = [boxU a b c xs] ∧ BoxOk a b c xs ∧ acc.length = i ∧ ∀ v ∈ acc, Od 50 d v) ⟨a, b, c, rfl, h, rfl, fun v m => by cases m⟩ ?_ ?_
    · rintro i acc _ Kt Kf hi ⟨a, b, c, rfl, h, hl, ha⟩ k1 k2
      have hd0 : 0 < d := by rcases hm with z | z; exact z; omega
      walk_at "ev"
      rw [show (d : Int) - 1 = ((d - 1 : Nat) : Int) by omega]
      refine ⟨⟨nd1, rfl⟩, a, b, c, xs, d - 1, rfl, rfl, h, by omega, fun v a b c ov h => ⟨⟨Nat.le_refl _, rfl⟩, ?_⟩⟩
      rw [show d - 1 + 1 = d by omega] at ov
      refine k1 v _ ⟨a, b, c, rfl, h, by rw [List.length_append, hl]; rfl, fun u m => ?_⟩
      rcases List.mem_append.mp m with m | m
      · exact ha u m
      · rw [List.mem_singleton] at m
        subst m; exact ov
    · rintro acc _ ⟨a, b, c, rfl, h, hl, ha⟩
      exact ⟨rfl, q _ a b c (.tup _ acc (by omega) ha) h⟩
  walk_at "ev"
  by_cases c0 : (d : Int) > 0
  · refine ifT (decide_eq_true c0) ?_
    refine ⟨⟨nd1, rfl⟩, a, b, c, xs, 9, rfl, rfl, h, by omega, by omega, fun t a b c ht h => ⟨⟨Nat.le_refl _, rfl⟩, ?_⟩⟩
    exact rest 9 (by omega) (by omega) (.inl (by omega)) t a b c ht h
  · refine ifF (decide_eq_false c0) ?_
    refine ⟨⟨nd1, rfl⟩, a, b, c, xs, 6, rfl, rfl, h, by omega, by omega, fun t a b c ht h => ⟨⟨Nat.le_refl _, rfl⟩, ?_⟩⟩
    exact rest 6 (by omega) (by omega) (.inr rfl) t a b c ht h
def t_turn2 (sp_rec : XSp) : XS :=
  (wSeq (wSet 3 (wFn sp__law_take (wCons (wVar 0) (wCons (wCall (c1 oLen) (wCons (wVar 1) wNil)) wNil))))
  (wSeq (wSet 4 (wFn sp__law_take (wCons (wVar 0) (wCons (wC (.int 8)) wNil))))
  (wSeq (wIfS (wB (w2 (oEq false) (wVar 4) (wC (.int 1)))) (wRet (w2 (oAdd false) (wSl false (wVar 1) wNoPart (wPart (wVar 3))) (wSl false (wVar 1) (wPart (w2 (oAdd false) (wVar 3) (wC (.int 1)))) wNoPart))) wNext)
  (wSeq (wIfS (wB (w2 (oEq false) (wVar 4) (wC (.int 2)))) (wRet (w2 (oAdd false) (wSl false (wVar 1) wNoPart (wPart (w2 (oAdd false) (wVar 3) (wC (.int 1))))) (wSl false (wVar 1) (wPart (wVar 3)) wNoPart))) wNext)
  (wSeq (wIfS (wB (w2 (oEq false) (wVar 4) (wC (.int 3)))) (wRet (w2 (oAdd false) (wSl false (wVar 1) (wPart (wVar 3)) wNoPart) (wSl false (wVar 1) wNoPart (wPart (wVar 3))))) wNext)
  (wRet (w2 (oAdd false) (w2 (oAdd false) (wSl false (wVar 1) wNoPart (wPart (wVar 3))) (wTup (wCons (wFn sp_rec (wCons (wVar 0) (wCons (w2 oIx (wVar 1) (wVar 3)) (wCons (w2 (oSub) (wVar 2) (wC (.int 1))) wNil)))) wNil))) (wSl false (wVar 1) (wPart (w2 (oAdd false) (wVar 3) (wC (.int 1)))) wNoPart))))))))
theorem odd_take {L k : Nat} {ds : List D} (h : ∀ d ∈ ds, Od L k d) (i : Nat) : ∀ d ∈ ds.take i, Od (L + 1) (k + 2) d := fun d m => (h d (List.mem_of_mem_take m)).mono (by omega) (by omega)
theorem odd_drop {L k : Nat} {ds : List D} (h : ∀ d ∈ ds, Od L k d) (i : Nat) : ∀ d ∈ ds.drop i, Od (L + 1) (k + 2) d := fun d m => (h d (List.mem_of_mem_drop m)).mono (by omega) (by omega)
theorem odd_app {L k : Nat} {ds es : List D} (h : ∀ d ∈ ds, Od L k d) (h' : ∀ d ∈ es, Od L k d) (l : ds.length + es.length ≤ L) : Od L (k + 1) (.tup (ds ++ es)) := .tup _ _ (by rw [List.length_append]; exact l) fun d m => by
  rcases List.mem_append.mp m with m | m
  · exact h d m
  · exact h' d m
theorem r_turn2 (n : Nat) {a b c : Int} {xs : List Int} {ds : List D} {d L k : Nat} {Q : UK} (h : BoxOk a b c xs) (hd : d < n + 1) (hd0 : 0 < d) (hl : ds.length ≤ L) (ho : ∀ d ∈ ds, Od L k d) (hp : 0 < ds.length) (k3 : 50 ≤ L) (k80 : L ≤ 6500) (k30 : k + 1 ≤ 30) (q : ∀ v' a' b' c', Od (L + 1) (k + 1 + 3) v' → BoxOk a' b' c' xs → Q (.fz v') [boxU a' b' c' xs]) {nx bk ct : Rho → Mu → Prop} :
    t_turn2 (spTurn n) ⟨nx, back 1 Q, bk, ct⟩ [some (.ptr 0), some (.fz (.tup ds)), some (.fz (natD d)), none, none] [boxU a b c xs] := by
  walk_at "ev"
  refine ⟨⟨nd1, rfl⟩, a, b, c, xs, (ds.length : Int), rfl, rfl, h, by omega, by omega, fun at_ a b c hat h => ⟨⟨Nat.le_refl _, rfl⟩, ?_⟩⟩
  have hat : at_ < ds.length := by omega
  walk_at "ev"
  refine ⟨⟨nd1, rfl⟩, a, b, c, xs, 8, rfl, rfl, h, by omega, by omega, fun sort a b c hsort h => ⟨⟨Nat.le_refl _, rfl⟩, ?_⟩⟩
  walk_at "ev"
  have t1 : (ds.take at_).length = at_ := by rw [List.length_take]; omega
  have d1 : (ds.drop (at_ + 1)).length = ds.length - (at_ + 1) := List.length_drop ..
  have t2 : (ds.take (at_ + 1)).length = at_ + 1 := by rw [List.length_take]; omega
  have d2 : (ds.drop at_).length = ds.length - at_ := List.length_drop ..
  have ea : (at_ : Int) + 1 = ((at_ + 1 : Nat) : Int) := by omega
  by_cases c1 : (sort : Int) = 1
  · refine ifT (decT c1) ?_
    walk_at "ev"
    rw [ea, cut_to, cut_from]
    refine ⟨small (by omega), ?_⟩
    exact ⟨rfl, q _ a b c ((odd_app (odd_take ho _) (odd_drop ho _) (by omega)).mono (Nat.le_refl _) (by omega)) h⟩
  refine ifF (decF c1) ?_
  walk_at "ev"
  by_cases c2 : (sort : Int) = 2
  · refine ifT (decT c2) ?_
    walk_at "ev"
    rw [ea, cut_to, cut_from]
    refine ⟨small (by omega), ?_⟩
    exact ⟨rfl, q _ a b c ((odd_app (odd_take ho _) (odd_drop ho _) (by omega)).mono (Nat.le_refl _) (by omega)) h⟩
  refine ifF (decF c2) ?_
  walk_at "ev"
  by_cases c3 : (sort : Int) = 3
  · refine ifT (decT c3) ?_
    walk_at "ev"
    rw [cut_to, cut_from]
    refine ⟨small (by omega), ?_⟩
    exact ⟨rfl, q _ a b c ((odd_app (odd_drop ho _) (odd_take ho _) (by omega)).mono (Nat.le_refl _) (by omega)) h⟩
  refine ifF (decF c3) ?_
  walk_at "ev"
  refine ⟨ds[at_], atI_ix (List.getElem?_eq_getElem hat), ?_⟩
  walk_at "ev"
  rw [show (d : Int) - 1 = ((d - 1 : Nat) : Int) by omega]
  refine ⟨⟨nd1, rfl⟩, a, b, c, xs, ds[at_], d - 1, L, k, rfl, rfl, h, by omega, ho _ (List.getElem_mem hat), k3, k80, by omega, fun v a b c ov h => ⟨⟨Nat.le_refl _, rfl⟩, ?_⟩⟩
  walk_at "ev"
  refine ⟨small (by show 1 ≤ 10000; omega), ?_⟩
  walk_at "ev"
  rw [cut_to]
  refine ⟨small (by show (ds.take at_).length + 1 ≤ 10000; omega), ?_⟩
  walk_at "ev"
  rw [ea, cut_from]
  refine ⟨small (by rw [List.length_append]; show (ds.take at_).length + 1 + (ds.drop (at_ + 1)).length ≤ 10000; omega), ?_⟩
  refine ⟨rfl, q _ a b c (odd_app (L := L + 1) (k := k + 3) (fun u m => ?_) (fun u m => (odd_drop ho _ u m).mono (Nat.le_refl _) (by omega)) (by rw [List.length_append]; show (ds.take at_).length + 1 + (ds.drop (at_ + 1)).length ≤ _; omega)) h⟩
  rcases List.mem_append.mp m with m | m
  · exact (odd_take ho _ u m).mono (Nat.le_refl _) (by omega)
  · rw [List.mem_singleton] at m
    subst m; exact ov
theorem r_turned (n : Nat) : Rd (spTurn (n + 1)) N__law_turned (t__law_turned (spTurn n)) := by
  rintro us μ Q ⟨a, b, c, xs, v, d, L, k, rfl, rfl, h, hd, o, k3, k80, k30, q⟩
  have odd : ∀ (a b c : Int), BoxOk a b c xs → wRet (wFn sp__law_odd (wCons (wVar 0) (wCons (wC (.int 2)) wNil))) ⟨fun _ μ' => back 1 Q (.fz .non) μ', back 1 Q, fun _ _ => False, fun _ _ => False⟩ [some (.ptr 0), some (.fz v), some (.fz (natD d)), none, none] [boxU a b c xs] := fun a b c h => by
    refine ⟨⟨nd1, rfl⟩, a, b, c, xs, 2, rfl, rfl, h, by omega, fun v a b c ov h => ⟨⟨Nat.le_refl _, rfl⟩, ?_⟩⟩
    exact ⟨rfl, q v a b c (ov.mono (by omega) (by omega)) h⟩
  cases o with
  | non _ => exact ⟨rfl, _, rfl, odd a b c h⟩
  | bl _ _ => exact ⟨rfl, _, rfl, odd a b c h⟩
  | int _ _ => exact ⟨rfl, _, rfl, odd a b c h⟩
  | str _ _ _ => exact ⟨rfl, _, rfl, odd a b c h⟩
  | tup k ds hl ho =>
    refine ⟨rfl, _, rfl, ?_⟩
    walk_at "ev"
    by_cases c0 : (ds.length : Int) = 0
    · refine ifT (decT c0) ?_
      exact odd a b c h
    refine ifF (decF c0) ?_
    walk_at "ev"
    by_cases c1 : (d : Int) = 0
    · refine ifT (decT c1) ?_
      exact odd a b c h
    refine ifF (decF c1) ?_
    walk_at "ev"
    refine ⟨⟨nd1, rfl⟩, a, b, c, xs, 8, rfl, rfl, h, by omega, by omega, fun t a b c ht h => ⟨⟨Nat.le_refl _, rfl⟩, ?_⟩⟩
    walk_at "ev"
    by_cases c2 : (t : Int) = 7
    · refine ifT (decT c2) ?_
      exact odd a b c h
    refine ifF (decF c2) ?_
    exact r_turn2 n h hd (by omega) hl ho (by omega) k3 k80 k30 q
def t_sen2 (sp_rec : XSp) : XS :=
  (wSeq (wIfS (wB (w2 (oLt) (wVar 3) (wC (.int 2)))) (wSeq (wSet 4 (wIf (wB (w2 (oEq false) (wFn sp__law_take (wCons (wVar 0) (wCons (wC (.int 6)) wNil))) (wC (.int 0)))) (w2 (oAdd false) (wVar 2) (wC (.int 1))) (wCall (c2 oMax2) (wCons (wC (.int 1)) (wCons (wVar 2) wNil)))))
  (wRet (wTup (wCons (wFn sp__law_pick (wCons (wVar 0) (wCons (wLst false (wCons (wC (.str "same")) (wCons (wC (.str "tied")) wNil))) wNil))) (wCons (wFn sp__law_take (wCons (wVar 0) (wCons (wVar 4) wNil))) (wCons (wFn sp__law_take (wCons (wVar 0) (wCons (wCall (c2 oMax2) (wCons (wC (.int 1)) (wCons (wVar 2) wNil))) wNil))) wNil)))))) wNext)
  (wSeq (wIfS (wB (w2 (oEq false) (wVar 3) (wC (.int 2)))) (wRet (wTup (wCons (wC (.str "not")) (wCons (wFn sp_rec (wCons (wVar 0) (wCons (w2 (oSub) (wVar 1) (wC (.int 1))) (wCons (wVar 2) wNil)))) wNil)))) wNext)
  (wSeq (wIfS (wB (w2 (oEq false) (wVar 3) (wC (.int 3)))) (wRet (wTup (wCons (wC (.str "and")) (wCons (wCall (c1 oTuple) (wCons (wLc false (xRng1 (wCons (wFn sp__law_take (wCons (wVar 0) (wCons (wC (.int 4)) wNil))) wNil)) (gSet 5) wYes (wFn sp_rec (wCons (wVar 0) (wCons (w2 (oSub) (wVar 1) (wC (.int 1))) (wCons (wVar 2) wNil)))) [5]) wNil)) wNil)))) wNext)
  (wRet (wTup (wCons (wC (.str "some")) (wCons (wFn sp_rec (wCons (wVar 0) (wCons (w2 (oSub) (wVar 1) (wC (.int 1))) (wCons (w2 (oAdd false) (wVar 2) (wC (.int 1))) wNil)))) wNil)))))))
def t_sen3 : XS :=
  (wRet (wTup (wCons (wFn sp__law_pick (wCons (wVar 0) (wCons (wLst false (wCons (wC (.str "same")) (wCons (wC (.str "tied")) wNil))) wNil))) (wCons (wFn sp__law_take (wCons (wVar 0) (wCons (wVar 4) wNil))) (wCons (wFn sp__law_take (wCons (wVar 0) (wCons (wCall (c2 oMax2) (wCons (wC (.int 1)) (wCons (wVar 2) wNil))) wNil))) wNil)))))
theorem max1 (m : Nat) : D.int (if (m : Int) > 1 then (m : Int) else 1) = natD (max 1 m) := by
  unfold natD
  congr 1
  split <;> omega
theorem r_sen3 {a b c : Int} {xs : List Int} {d m e sort : Nat} {Q : UK} (h : BoxOk a b c xs) (he : 0 < e) (he2 : e ≤ 50) (hm : m ≤ 20) (q : ∀ s a' b' c', Od 50 (2 * d + 2) s → BoxOk a' b' c' xs → Q (.fz s) [boxU a' b' c' xs]) {nx bk ct : Rho → Mu → Prop} :
    t_sen3 ⟨nx, back 1 Q, bk, ct⟩ [some (.ptr 0), some (.fz (natD d)), some (.fz (natD m)), some (.fz (natD sort)), some (.fz (natD e)), none] [boxU a b c xs] := by
  walk_at "ev"
  refine ⟨small (by show 2 ≤ 10000; omega), ?_⟩
  walk_at "ev"
  refine ⟨⟨nd1, rfl⟩, a, b, c, xs, [.str "same", .str "tied"], rfl, rfl, h, by simp, by simp, fun w a b c hv h => ⟨⟨Nat.le_refl _, rfl⟩, ?_⟩⟩
  walk_at "ev"
  refine ⟨⟨nd1, rfl⟩, a, b, c, xs, (e : Int), rfl, rfl, h, by omega, by omega, fun i a b c hi h => ⟨⟨Nat.le_refl _, rfl⟩, ?_⟩⟩
  walk_at "ev"
  rw [max1]
  refine ⟨⟨nd1, rfl⟩, a, b, c, xs, ((max 1 m : Nat) : Int), rfl, rfl, h, by omega, by omega, fun j a b c hj h => ⟨⟨Nat.le_refl _, rfl⟩, ?_⟩⟩
  walk_at "ev"
  refine ⟨small (by show 3 ≤ 10000; omega), ?_⟩
  simp only [List.mem_cons, List.not_mem_nil, or_false] at hv
  rcases hv with rfl | rfl
  · exact ⟨rfl, q _ a b c (od3 (by omega) od_w (.int _ _) (.int _ _)) h⟩
  · exact ⟨rfl, q _ a b c (od3 (by omega) od_w (.int _ _) (.int _ _)) h⟩
theorem r_sen2 (n : Nat) {a b c : Int} {xs : List Int} {d m sort : Nat} {Q : UK} (h : BoxOk a b c xs) (hd : d < n + 1) (hm : m + d ≤ 20) (hs : 0 < d ∨ sort < 2) (q : ∀ s a' b' c', Od 50 (2 * d + 2) s → BoxOk a' b' c' xs → Q (.fz s) [boxU a' b' c' xs]) {nx bk ct : Rho → Mu → Prop} :
    t_sen2 (spSen n) ⟨nx, back 1 Q, bk, ct⟩ [some (.ptr 0), some (.fz (natD d)), some (.fz (natD m)), some (.fz (natD sort)), none, none] [boxU a b c xs] := by
  walk_at "ev"
  by_cases c1 : (sort : Int) < 2
  · refine ifT (decide_eq_true c1) ?_
    walk_at "ev"
    refine ⟨⟨nd1, rfl⟩, a, b, c, xs, 6, rfl, rfl, h, by omega, by omega, fun t a b c ht h => ⟨⟨Nat.le_refl _, rfl⟩, ?_⟩⟩
    walk_at "ev"
    by_cases c0 : (t : Int) = 0
    · refine ifT (decT c0) ?_
      walk_at "ev"
      have z := r_sen3 (m := m) (e := m + 1) (sort := sort) (nx := nx) (bk := bk) (ct := ct) h (by omega) (by omega) (by omega) q
      exact z
    · refine ifF (decF c0) ?_
      walk_at "ev"
      rw [max1]
      exact r_sen3 (m := m) (e := max 1 m) (sort := sort) (nx := nx) (bk := bk) (ct := ct) h (by omega) (by omega) (by omega) q
  refine ifF (decide_eq_false c1) ?_
  have hd0 : 0 < d := by rcases hs with z | z; exact z; omega
  have ed : (d : Int) - 1 = ((d - 1 : Nat) : Int) := by omega
  have edd : 2 * (d - 1) + 2 = 2 * d := by omega
  walk_at "ev"
  by_cases c2 : (sort : Int) = 2
  · refine ifT (decT c2) ?_
    walk_at "ev"
    rw [ed]
    refine ⟨⟨nd1, rfl⟩, a, b, c, xs, d - 1, m, rfl, rfl, h, by omega, by omega, fun f a b c fo h => ⟨⟨Nat.le_refl _, rfl⟩, ?_⟩⟩
    walk_at "ev"
    refine ⟨small (by show 2 ≤ 10000; omega), ?_⟩
    rw [edd] at fo
    exact ⟨rfl, q _ a b c (od2 (by omega) ((od_w (k := 0)).mono (Nat.le_refl _) (by omega)) (fo.mono (Nat.le_refl _) (by omega))) h⟩
  refine ifF (decF c2) ?_
  walk_at "ev"
  by_cases c3 : (sort : Int) = 3
  · refine ifT (decT c3) ?_
    walk_at "ev"
    refine ⟨⟨nd1, rfl⟩, a, b, c, xs, 4, rfl, rfl, h, by omega, by omega, fun many a b c hmm h => ⟨⟨Nat.le_refl _, rfl⟩, ?_⟩⟩
    walk_at "ev"
    refine ⟨by omega, ?_⟩
    rw [Int.toNat_natCast]
    refine ⟨small (by unfold upto; rw [List.length_map, List.length_range]; omega), ?_⟩
    refine comp_range (fun i acc μ => ∃ (a b c : Int), μ = [boxU a b c xs] ∧ BoxOk a b c xs ∧ acc.length = i ∧ ∀ f ∈ acc, Od 50 (2 * d) f) ⟨a, b, c, rfl, h, rfl, fun v m => by cases m⟩ ?_ ?_
    · rintro i acc _ Kt Kf hi ⟨a, b, c, rfl, h, hl, hf⟩ k1 k2
      walk_at "ev"
      rw [ed]
      refine ⟨⟨nd1, rfl⟩, a, b, c, xs, d - 1, m, rfl, rfl, h, by omega, by omega, fun f a b c fo h => ⟨⟨Nat.le_refl _, rfl⟩, ?_⟩⟩
      rw [edd] at fo
      refine k1 f _ ⟨a, b, c, rfl, h, by rw [List.length_append, hl]; rfl, fun g m => ?_⟩
      rcases List.mem_append.mp m with m | m
      · exact hf g m
      · rw [List.mem_singleton] at m
        subst m; exact fo
    · rintro acc _ ⟨a, b, c, rfl, h, hl, hf⟩
      walk_at "ev"
      refine ⟨small (by show 2 ≤ 10000; omega), ?_⟩
      exact ⟨rfl, q _ a b c (od2 (by omega) od_w (.tup _ acc (by omega) hf)) h⟩
  refine ifF (decF c3) ?_
  walk_at "ev"
  rw [ed]
  refine ⟨⟨nd1, rfl⟩, a, b, c, xs, d - 1, m + 1, rfl, rfl, h, by omega, by omega, fun f a b c fo h => ⟨⟨Nat.le_refl _, rfl⟩, ?_⟩⟩
  walk_at "ev"
  refine ⟨small (by show 2 ≤ 10000; omega), ?_⟩
  rw [edd] at fo
  exact ⟨rfl, q _ a b c (od2 (by omega) ((od_w (k := 0)).mono (Nat.le_refl _) (by omega)) (fo.mono (Nat.le_refl _) (by omega))) h⟩
theorem r_sen (n : Nat) : Rd (spSen (n + 1)) N__law_sentence (t__law_sentence (spSen n)) := by
  rintro us μ Q ⟨a, b, c, xs, d, m, rfl, rfl, h, hd, hm, q⟩
  walk_at "ev"
  by_cases c0 : (d : Int) > 0
  · refine ifT (decide_eq_true c0) ?_
    refine ⟨⟨nd1, rfl⟩, a, b, c, xs, 7, rfl, rfl, h, by omega, by omega, fun t a b c ht h => ⟨⟨Nat.le_refl _, rfl⟩, ?_⟩⟩
    exact r_sen2 n h hd hm (.inl (by omega)) q
  · refine ifF (decide_eq_false c0) ?_
    refine ⟨⟨nd1, rfl⟩, a, b, c, xs, 2, rfl, rfl, h, by omega, by omega, fun t a b c ht h => ⟨⟨Nat.le_refl _, rfl⟩, ?_⟩⟩
    exact r_sen2 n h hd hm (.inr (by omega)) q
end K19
namespace K19
open PySem PySem.Spec PyProof.Rows L2 W3 CB MS M19
local macro_rules | `(tactic| walk_at "ev") => `(tactic| conv => whnf)
local macro_rules | `(tactic| walk_at "ix") => `(tactic| (refine ⟨_, rfl, ?_⟩; conv => whnf))
local macro_rules | `(tactic| walk_at "is") => `(tactic| (refine ⟨rfl, true, rfl, ?_⟩; conv => whnf))
local macro_rules | `(tactic| walk_at "sz") => `(tactic| (refine ⟨small (by show _ ≤ 10000; decide), ?_⟩; conv => whnf))
def t_form2 (sp_rec : XSp) : XS :=
  (wSeq (wSet 8 (wLc false (xSeq (wVar 3)) (gTupX 2 (gConsX (gSet 7) (gConsX (gSet 13) gNilX))) (wB (w2 (oEq false) (wVar 13) (wVar 4))) (wVar 7) [7, 13]))
  (wSeq (wIfS (wB (w2 (oLt) (wVar 6) (wC (.int 2)))) (wRet (wIf (wAnd (wB (w2 (oEq true) (wVar 8) (wLst false wNil))) (wB (w2 (oGt) (wFn sp__law_take (wCons (wVar 0) (wCons (wC (.int 4)) wNil))) (wC (.int 0))))) (wTup (wCons (wC (.str "name")) (wCons (wFn sp__law_pick (wCons (wVar 0) (wCons (wVar 8) wNil))) wNil))) (wTup (wCons (wC (.str "true")) wNil)))) wNext)
  (wSeq (wIfS (wB (w2 (oEq false) (wVar 6) (wC (.int 2)))) (wRet (wTup (wCons (wC (.str "not")) (wCons (wFn sp_rec (wCons (wVar 0) (wCons (w2 (oSub) (wVar 1) (wC (.int 1))) (wCons (wVar 2) (wCons (wVar 3) (wCons (wNotV (wVar 4)) (wCons (wVar 5) wNil))))))) wNil)))) wNext)
  (wSeq (wIfS (wB (w2 (oEq false) (wVar 6) (wC (.int 3)))) (wSeq (wSet 9 (wFn sp__law_take (wCons (wVar 0) (wCons (wC (.int 4)) wNil))))
  (wRet (wTup (wCons (wC (.str "and")) (wCons (wCall (c1 oTuple) (wCons (wLc false (xRng1 (wCons (wVar 9) wNil)) (gSet 7) wYes (wFn sp_rec (wCons (wVar 0) (wCons (w2 (oSub) (wVar 1) (wC (.int 1))) (wCons (wVar 2) (wCons (wVar 3) (wCons (wVar 4) (wCons (wVar 5) wNil))))))) [7]) wNil)) wNil))))) wNext)
  (wSeq (wSet 10 (wLc false (xSeq (wVar 3)) (gTupX 2 (gConsX (gSet 7) (gConsX (gSet 13) gNilX))) wYes (wVar 7) [7, 13]))
  (wSeq (wSet 11 (wLc false (xRng1 (wCons (wC (.int 6)) wNil)) (gSet 7) (wB (w2 (oIn true) (wVar 7) (wVar 10))) (wVar 7) [7]))
  (wSeq (wIfS (wOr (wB (w2 (oLt) (wVar 6) (wC (.int 6)))) (wOr (wNot (wTru (wVar 5))) (wB (w2 (oEq false) (wVar 11) (wLst false wNil))))) (wRet (wTup (wCons (wC (.str "can")) (wCons (wFn sp__law_pick (wCons (wVar 0) (wCons (wVar 2) wNil))) (wCons (wFn sp_rec (wCons (wVar 0) (wCons (w2 (oSub) (wVar 1) (wC (.int 1))) (wCons (wVar 2) (wCons (wVar 3) (wCons (wVar 4) (wCons (wVar 5) wNil))))))) wNil))))) wNext)
  (wSeq (wSet 7 (wFn sp__law_pick (wCons (wVar 0) (wCons (wVar 11) wNil))))
  (wSeq (wSet 12 (wFn sp_rec (wCons (wVar 0) (wCons (w2 (oSub) (wVar 1) (wC (.int 1))) (wCons (wVar 2) (wCons (w2 (oAdd false) (wVar 3) (wLst false (wCons (wTup (wCons (wVar 7) (wCons (wVar 4) wNil))) wNil))) (wCons (wVar 4) (wCons (wVar 5) wNil))))))))
  (wRet (wTup (wCons (wFn sp__law_pick (wCons (wVar 0) (wCons (wLst false (wCons (wC (.str "least")) (wCons (wC (.str "most")) wNil))) wNil))) (wCons (wVar 7) (wCons (wVar 12) wNil))))))))))))))
def t_form4 (sp_rec : XSp) : XS :=
  (wSeq (wSet 7 (wFn sp__law_pick (wCons (wVar 0) (wCons (wVar 11) wNil))))
  (wSeq (wSet 12 (wFn sp_rec (wCons (wVar 0) (wCons (w2 (oSub) (wVar 1) (wC (.int 1))) (wCons (wVar 2) (wCons (w2 (oAdd false) (wVar 3) (wLst false (wCons (wTup (wCons (wVar 7) (wCons (wVar 4) wNil))) wNil))) (wCons (wVar 4) (wCons (wVar 5) wNil))))))))
  (wRet (wTup (wCons (wFn sp__law_pick (wCons (wVar 0) (wCons (wLst false (wCons (wC (.str "least")) (wCons (wC (.str "most")) wNil))) wNil))) (wCons (wVar 7) (wCons (wVar 12) wNil)))))))
def t_form3 (sp_rec : XSp) : XS :=
  (wRet (wTup (wCons (wC (.str "can")) (wCons (wFn sp__law_pick (wCons (wVar 0) (wCons (wVar 2) wNil))) (wCons (wFn sp_rec (wCons (wVar 0) (wCons (w2 (oSub) (wVar 1) (wC (.int 1))) (wCons (wVar 2) (wCons (wVar 3) (wCons (wVar 4) (wCons (wVar 5) wNil))))))) wNil)))))
theorem letters_od {L k : Nat} {d : D} (h : d ∈ ([.str "a", .str "b", .str "c", .str "d", .str "e"] : List D)) : Od L (k + 1) d := by
  simp only [List.mem_cons, List.not_mem_nil, or_false] at h
  rcases h with rfl | rfl | rfl | rfl | rfl <;> exact od_w
section
variable {a b c : Int} {xs : List Int} {d sort : Nat} {names : List (Nat × Bool)} {s rr : Bool} {Q : UK}
theorem r_form3 (n : Nat) (h : BoxOk a b c xs) (hd : d < n + 1) (hd0 : 0 < d) (nl : names.length + d ≤ 10) (q : ∀ f a' b' c', Od 50 (2 * d + 2) f → BoxOk a' b' c' xs → Q (.fz f) [boxU a' b' c' xs]) {nx bk ct : Rho → Mu → Prop} {o7 o8 o9 o10 o11 o12 o13 : Option U} :
    t_form3 (spForm n) ⟨nx, back 1 Q, bk, ct⟩ [some (.ptr 0), some (.fz (natD d)), some (.fz letters5), some (.fz (.lst (names.map nwD))), some (.fz (.bl s)), some (.fz (.bl rr)), some (.fz (natD sort)), o7, o8, o9, o10, o11, o12, o13] [boxU a b c xs] := by
  have ed : (d : Int) - 1 = ((d - 1 : Nat) : Int) := by omega
  walk_at "ev"
  refine ⟨⟨nd1, rfl⟩, a, b, c, xs, [.str "a", .str "b", .str "c", .str "d", .str "e"], rfl, rfl, h, by simp, by simp, fun v a b c hv h => ⟨⟨Nat.le_refl _, rfl⟩, ?_⟩⟩
  walk_at "ev"
  rw [ed]
  refine ⟨⟨nd1, rfl⟩, a, b, c, xs, d - 1, names, s, rr, rfl, rfl, h, by omega, by omega, fun f a b c fo h => ⟨⟨Nat.le_refl _, rfl⟩, ?_⟩⟩
  walk_at "ev"
  refine ⟨small (by show 3 ≤ 10000; omega), ?_⟩
  exact ⟨rfl, q _ a b c (od3 (by omega) od_w (letters_od hv) (fo.mono (Nat.le_refl _) (by omega))) h⟩
theorem r_form4 (n : Nat) {free : List Nat} (h : BoxOk a b c xs) (hd : d < n + 1) (hd0 : 0 < d) (nl : names.length + d ≤ 10) (hf : free ≠ []) (hfl : free.length ≤ 6) (q : ∀ f a' b' c', Od 50 (2 * d + 2) f → BoxOk a' b' c' xs → Q (.fz f) [boxU a' b' c' xs]) {nx bk ct : Rho → Mu → Prop} {o8 o9 o10 : Option U} :
    t_form4 (spForm n) ⟨nx, back 1 Q, bk, ct⟩ [some (.ptr 0), some (.fz (natD d)), some (.fz letters5), some (.fz (.lst (names.map nwD))), some (.fz (.bl s)), some (.fz (.bl rr)), some (.fz (natD sort)), none, o8, o9, o10, some (.fz (.lst (free.map natD))), none, none] [boxU a b c xs] := by
  have ed : (d : Int) - 1 = ((d - 1 : Nat) : Int) := by omega
  walk_at "ev"
  refine ⟨⟨nd1, rfl⟩, a, b, c, xs, free.map natD, rfl, rfl, h, by simpa using hf, by rw [List.length_map]; omega, fun v a b c hv h => ⟨⟨Nat.le_refl _, rfl⟩, ?_⟩⟩
  obtain ⟨k, mk, rfl⟩ := List.mem_map.mp hv
  walk_at "ev"
  rw [ed]
  refine ⟨small (by show 2 ≤ 10000; omega), ?_⟩
  walk_at "ev"
  refine ⟨small (by show 1 ≤ 10000; omega), ?_⟩
  walk_at "ev"
  refine ⟨small (by rw [List.length_map]; show names.length + 1 ≤ 10000; omega), ?_⟩
  walk_at "ev"
  refine ⟨⟨nd1, rfl⟩, a, b, c, xs, d - 1, names ++ [(k, s)], s, rr, by rw [List.map_append]; rfl, rfl, h, by omega, by rw [List.length_append]; show names.length + 1 + (d - 1) ≤ 10; omega, fun f a b c fo h => ⟨⟨Nat.le_refl _, rfl⟩, ?_⟩⟩
  walk_at "ev"
  refine ⟨small (by show 2 ≤ 10000; omega), ?_⟩
  walk_at "ev"
  refine ⟨⟨nd1, rfl⟩, a, b, c, xs, [.str "least", .str "most"], rfl, rfl, h, by simp, by simp, fun w a b c hw h => ⟨⟨Nat.le_refl _, rfl⟩, ?_⟩⟩
  walk_at "ev"
  refine ⟨small (by show 3 ≤ 10000; omega), ?_⟩
  simp only [List.mem_cons, List.not_mem_nil, or_false] at hw
  rcases hw with rfl | rfl
  · exact ⟨rfl, q _ a b c (od3 (by omega) od_w (.int _ _) (fo.mono (Nat.le_refl _) (by omega))) h⟩
  · exact ⟨rfl, q _ a b c (od3 (by omega) od_w (.int _ _) (fo.mono (Nat.le_refl _) (by omega))) h⟩
theorem r_form2 (n : Nat) (h : BoxOk a b c xs) (hd : d < n + 1) (hs : 0 < d ∨ sort < 2) (nl : names.length + d ≤ 10) (q : ∀ f a' b' c', Od 50 (2 * d + 2) f → BoxOk a' b' c' xs → Q (.fz f) [boxU a' b' c' xs]) {nx bk ct : Rho → Mu → Prop} :
    t_form2 (spForm n) ⟨nx, back 1 Q, bk, ct⟩ [some (.ptr 0), some (.fz (natD d)), some (.fz letters5), some (.fz (.lst (names.map nwD))), some (.fz (.bl s)), some (.fz (.bl rr)), some (.fz (natD sort)), none, none, none, none, none, none, none] [boxU a b c xs] := by
  walk_at "ev"
  refine ⟨small (by rw [List.length_map, List.length_map]; omega), ?_⟩
  rw [List.map_map]
  refine compX_filter (fun p => p.2 == s) (fun p => natD p.1) names (fun p mp Kt Kf kk => ?_) ?_
  · walk_at "ev"
    refine ⟨rfl, ?_⟩
    walk_at "ev"
    obtain ⟨k, w⟩ := p
    cases w <;> cases s <;> exact kk
  walk_at "ev"
  by_cases c1 : (sort : Int) < 2
  · refine ifT (decide_eq_true c1) ?_
    walk_at "ev"
    refine ⟨small (by show 0 ≤ 10000; omega), ?_⟩
    have em : (names.filter fun p => p.2 == s).map (fun p => natD p.1) = ((names.filter fun p => p.2 == s).map (·.1)).map natD := by rw [List.map_map]; rfl
    rw [em]
    refine eq_nilN _ true (Q := fun b => match b with | true => _ | false => _) ?_
    have tru : ∀ (a b c : Int), BoxOk a b c xs → (wTup (wCons (wC (.str "true")) wNil)) [some (.ptr 0), some (.fz (natD d)), some (.fz letters5), some (.fz (.lst (names.map nwD))), some (.fz (.bl s)), some (.fz (.bl rr)), some (.fz (natD sort)), none, some (.fz (.lst (((names.filter fun p => p.2 == s).map (·.1)).map natD))), none, none, none, none, none] [boxU a b c xs] (back 1 Q) := fun a b c h => by
      walk_at "ev"
      refine ⟨small (by show 1 ≤ 10000; omega), ?_⟩
      exact ⟨rfl, q _ a b c (od1 (by omega) od_w) h⟩
    cases ef : (names.filter fun p => p.2 == s) with
    | nil =>
      rw [ef] at tru
      exact tru a b c h
    | cons p0 r0 =>
      rw [← ef]
      have ne : ngB true ((names.filter fun p => p.2 == s).map (·.1)).isEmpty = true := by rw [ef]; rfl
      rw [ne]
      walk_at "ev"
      refine ⟨⟨nd1, rfl⟩, a, b, c, xs, 4, rfl, rfl, h, by omega, by omega, fun t a b c ht h => ⟨⟨Nat.le_refl _, rfl⟩, ?_⟩⟩
      walk_at "ev"
      by_cases ct : (t : Int) > 0
      · refine ifT (decide_eq_true ct) ?_
        walk_at "ev"
        refine ⟨⟨nd1, rfl⟩, a, b, c, xs, ((names.filter fun p => p.2 == s).map (·.1)).map natD, rfl, rfl, h, by rw [ef]; simp, by rw [List.length_map, List.length_map]; have := List.length_filter_le (fun p : Nat × Bool => p.2 == s) names; omega, fun v a b c hv h => ⟨⟨Nat.le_refl _, rfl⟩, ?_⟩⟩
        obtain ⟨k, mk, rfl⟩ := List.mem_map.mp hv
        walk_at "ev"
        refine ⟨small (by show 2 ≤ 10000; omega), ?_⟩
        exact ⟨rfl, q _ a b c (od2 (by omega) od_w (.int _ _)) h⟩
      · refine ifF (decide_eq_false ct) ?_
        exact tru a b c h
  refine ifF (decide_eq_false c1) ?_
  have hd0 : 0 < d := by rcases hs with z | z; exact z; omega
  have ed : (d : Int) - 1 = ((d - 1 : Nat) : Int) := by omega
  walk_at "ev"
  by_cases c2 : (sort : Int) = 2
  · refine ifT (decT c2) ?_
    walk_at "ev"
    rw [ed]
    refine ⟨⟨nd1, rfl⟩, a, b, c, xs, d - 1, names, !s, rr, rfl, rfl, h, by omega, by omega, fun f a b c fo h => ⟨⟨Nat.le_refl _, rfl⟩, ?_⟩⟩
    walk_at "ev"
    refine ⟨small (by show 2 ≤ 10000; omega), ?_⟩
    exact ⟨rfl, q _ a b c (od2 (by omega) od_w (fo.mono (Nat.le_refl _) (by omega))) h⟩
  refine ifF (decF c2) ?_
  walk_at "ev"
  by_cases c3 : (sort : Int) = 3
  · refine ifT (decT c3) ?_
    walk_at "ev"
    refine ⟨⟨nd1, rfl⟩, a, b, c, xs, 4, rfl, rfl, h, by omega, by omega, fun many a b c hm h => ⟨⟨Nat.le_refl _, rfl⟩, ?_⟩⟩
    walk_at "ev"
    refine ⟨by omega, ?_⟩
    rw [Int.toNat_natCast]
    refine ⟨small (by unfold upto; rw [List.length_map, List.length_range]; omega), ?_⟩
    refine comp_range (fun i acc μ => ∃ (a b c : Int), μ = [boxU a b c xs] ∧ BoxOk a b c xs ∧ acc.length = i ∧ ∀ f ∈ acc, Od 50 (2 * d) f) ⟨a, b, c, rfl, h, rfl, fun v m => by cases m⟩ ?_ ?_
    · rintro i acc _ Kt Kf hi ⟨a, b, c, rfl, h, hl, hf⟩ k1 k2
      walk_at "ev"
      rw [ed]
      refine ⟨⟨nd1, rfl⟩, a, b, c, xs, d - 1, names, s, rr, rfl, rfl, h, by omega, by omega, fun f a b c fo h => ⟨⟨Nat.le_refl _, rfl⟩, ?_⟩⟩
      rw [show 2 * (d - 1) + 2 = 2 * d by omega] at fo
      refine k1 f _ ⟨a, b, c, rfl, h, by rw [List.length_append, hl]; rfl, fun g m => ?_⟩
      rcases List.mem_append.mp m with m | m
      · exact hf g m
      · rw [List.mem_singleton] at m
        subst m; exact fo
    · rintro acc _ ⟨a, b, c, rfl, h, hl, hf⟩
      walk_at "ev"
      refine ⟨small (by show 2 ≤ 10000; omega), ?_⟩
      exact ⟨rfl, q _ a b c (od2 (by omega) od_w (.tup _ acc (by omega) hf)) h⟩
  refine ifF (decF c3) ?_
  walk_at "ev"
  refine ⟨small (by rw [List.length_map, List.length_map]; omega), ?_⟩
  rw [List.map_map]
  refine compX_map (fun p => natD p.1) names (fun p mp Kt Kf k => ?_) ?_
  · walk_at "ev"
    refine ⟨rfl, ?_⟩
    walk_at "ev"
    exact k
  walk_at "ev"
  refine ⟨by decide, ?_⟩
  refine ⟨small (by show 6 ≤ 10000; omega), ?_⟩
  have em : names.map (fun p => natD p.1) = (names.map (·.1)).map natD := by rw [List.map_map]; rfl
  rw [em]
  refine compX_filter (fun k => !decide (k ∈ names.map (·.1))) (fun k => natD k) (List.range 6) (fun k mk Kt Kf kk => ?_) ?_
  · rw [Int.zero_add]
    exact in_row (names.map (·.1)) k true (Q := fun b => match b with | true => Kt (natD k) _ | false => Kf _) kk
  walk_at "ev"
  by_cases c6 : (sort : Int) < 6
  · refine ifT (decide_eq_true c6) ?_
    exact r_form3 n h hd hd0 nl q
  refine ifF (decide_eq_false c6) ?_
  walk_at "ev"
  cases rr with
  | false => exact r_form3 n h hd hd0 nl q
  | true =>
  walk_at "ev"
  refine ⟨small (by show 0 ≤ 10000; omega), ?_⟩
  refine eq_nilN _ false (Q := fun b => match b with | true => _ | false => _) ?_
  cases ef : ((List.range 6).filter fun k => !decide (k ∈ names.map (·.1))) with
  | nil => exact r_form3 n h hd hd0 nl q
  | cons k0 r0 =>
    rw [← ef]
    have ne : ngB false ((List.range 6).filter fun k => !decide (k ∈ names.map (·.1))).isEmpty = false := by rw [ef]; rfl
    rw [ne]
    refine r_form4 n h hd hd0 nl (by rw [ef]; simp) ?_ q
    have := List.length_filter_le (fun k => !decide (k ∈ names.map (·.1))) (List.range 6)
    rw [List.length_range] at this
    exact this
theorem r_form (n : Nat) : Rd (spForm (n + 1)) N__law_formula (t__law_formula (spForm n)) := by
  rintro us μ Q ⟨a, b, c, xs, d, names, s, rr, rfl, rfl, h, hd, nl, q⟩
  walk_at "ev"
  by_cases c0 : (d : Int) > 0
  · refine ifT (decide_eq_true c0) ?_
    refine ⟨⟨nd1, rfl⟩, a, b, c, xs, 8, rfl, rfl, h, by omega, by omega, fun t a b c ht h => ⟨⟨Nat.le_refl _, rfl⟩, ?_⟩⟩
    exact r_form2 n h hd (.inl (by omega)) nl q
  · refine ifF (decide_eq_false c0) ?_
    refine ⟨⟨nd1, rfl⟩, a, b, c, xs, 2, rfl, rfl, h, by omega, by omega, fun t a b c ht h => ⟨⟨Nat.le_refl _, rfl⟩, ?_⟩⟩
    exact r_form2 n h hd (.inr (by omega)) nl q
end
end K19
namespace K19
open PySem PySem.Spec PyProof.Rows L2 W3 CB MS M19
local macro_rules | `(tactic| walk_at "ev") => `(tactic| conv => whnf)
local macro_rules | `(tactic| walk_at "ix") => `(tactic| (refine ⟨_, rfl, ?_⟩; conv => whnf))
local macro_rules | `(tactic| walk_at "is") => `(tactic| (refine ⟨rfl, true, rfl, ?_⟩; conv => whnf))
local macro_rules | `(tactic| walk_at "sz") => `(tactic| (refine ⟨small (by show _ ≤ 10000; decide), ?_⟩; conv => whnf))
theorem up_snoc {acc : List Tri} {t : Tri} (h : acc.Pairwise fun p q => cod p < cod q) (b : ∀ u ∈ acc, cod u < cod t) : (acc ++ [t]).Pairwise fun p q => cod p < cod q := by
  rw [List.pairwise_append]
  exact ⟨h, List.pairwise_singleton _ _, fun u mu v mv => by
    rw [List.mem_singleton] at mv
    subst mv
    exact b u mu⟩
structure Acc (n : Nat) (acc : List Tri) (X : Nat) : Prop where
  lt : ∀ t ∈ acc, t.1 < n ∧ t.2.1 < 5 ∧ t.2.2 < n
  up : acc.Pairwise fun p q => cod p < cod q
  bd : ∀ t ∈ acc, cod t < X
theorem Acc.mono {n : Nat} {acc : List Tri} {X Y : Nat} (h : Acc n acc X) (l : X ≤ Y) : Acc n acc Y := ⟨h.lt, h.up, fun t m => Nat.lt_of_lt_of_le (h.bd t m) l⟩
theorem Acc.len {n : Nat} {acc : List Tri} {X : Nat} (h : Acc n acc X) (hx : X ≤ 6000) : acc.length ≤ 6000 := by
  have := up_len (N := 6000) (l := acc) (k := 0) (by omega) (fun t m => ⟨Nat.zero_le _, by have := h.bd t m; omega⟩) h.up
  omega
theorem Acc.put {n : Nat} {acc : List Tri} {i l j : Nat} (h : Acc n acc ((i * 5 + l) * 100 + j)) (hi : i < n) (hl : l < 5) (hj : j < n) : Acc n (acc ++ [(i, l, j)]) ((i * 5 + l) * 100 + (j + 1)) := by
  refine ⟨fun t m => ?_, up_snoc h.up fun u m => h.bd u m, fun t m => ?_⟩
  · rcases List.mem_append.mp m with m | m
    · exact h.lt t m
    · rw [List.mem_singleton] at m
      subst m; exact ⟨hi, hl, hj⟩
  · rcases List.mem_append.mp m with m | m
    · have := h.bd t m; omega
    · rw [List.mem_singleton] at m
      subst m
      show (i * 5 + l) * 100 + j < _
      omega
theorem r__law_system : Rd sp__law_system N__law_system t__law_system := by
  rintro us μ Q ⟨a, b, c, xs, most, rfl, rfl, h, hm1, hm5, q⟩
  walk_at "ev"
  refine ⟨⟨nd1, rfl⟩, a, b, c, xs, (most : Int), rfl, rfl, h, by omega, by omega, fun t a b c ht h => ⟨⟨Nat.le_refl _, rfl⟩, ?_⟩⟩
  walk_at "ev"
  refine ⟨small (by show 0 ≤ 10000; omega), ?_⟩
  walk_at "ev"
  refine ⟨⟨nd1, rfl⟩, a, b, c, xs, 4, rfl, rfl, h, by omega, by omega, fun part a b c hpart h => ⟨⟨Nat.le_refl _, rfl⟩, ?_⟩⟩
  walk_at "ev"
  obtain ⟨n, hn, n1, n5⟩ : ∃ n : Nat, (1 : Int) + (t : Int) = (n : Int) ∧ 1 ≤ n ∧ n ≤ most := ⟨1 + t, by omega, by omega, by omega⟩
  rw [hn]
  refine ⟨by omega, ?_⟩
  rw [Int.toNat_natCast]
  refine loop_range (fun i ρ μ => ∃ (acc : List Tri) (a b c : Int) (o6 o7 o8 : Option U), ρ = [some (.ptr 0), some (.fz (natD most)), some (.fz letters2), some (.fz (natD n)), some (.ptr 1), some (.fz (.int (1 + (part : Int)))), o6, o7, o8] ∧
    μ = [boxU a b c xs, .lst (acc.map fun t => .fz (triD t))] ∧ BoxOk a b c xs ∧ Acc n acc (i * 500)) ⟨[], a, b, c, none, none, none, rfl, rfl, h, ⟨fun _ m => (by cases m), .nil, fun _ m => (by cases m)⟩⟩ ?_ ?_
  · rintro _ _ ⟨acc, a, b, c, o6, o7, o8, rfl, rfl, h, ac⟩
    walk_at "ev"
    refine ⟨acc.map triD, unU_map triD acc, ?_⟩
    walk_at "ev"
    refine ⟨small (by show 2 ≤ 10000; omega), ⟨rfl, q ⟨n, acc⟩ a b c ⟨n1, by show n ≤ 12; omega, fun t m => ?_, ac.up⟩ n5 h⟩⟩
    obtain ⟨h1, h2, h3⟩ := ac.lt t m
    exact ⟨h1, by omega, h3⟩
  · rintro i _ _ hi ⟨acc, a, b, c, o6, o7, o8, rfl, rfl, h, ac⟩ T k1 k2
    rw [Int.zero_add]
    walk_at "ev"
    refine loop_by (e := fun l : Nat => .fz (.str (lab l))) (xs := [0, 4]) (fun r ρ μ => ∃ (l : Nat) (acc : List Tri) (a b c : Int) (o7 o8 : Option U), ρ = [some (.ptr 0), some (.fz (natD most)), some (.fz letters2), some (.fz (natD n)), some (.ptr 1), some (.fz (.int (1 + (part : Int)))), some (.fz (natD i)), o7, o8] ∧
      μ = [boxU a b c xs, .lst (acc.map fun t => .fz (triD t))] ∧ BoxOk a b c xs ∧ ((r = [0, 4] ∧ l = 0) ∨ (r = [4] ∧ l = 1) ∨ (r = [] ∧ l = 5)) ∧ Acc n acc ((i * 5 + l) * 100)) ⟨0, acc, a, b, c, o7, o8, rfl, rfl, h, .inl ⟨rfl, rfl⟩, ac.mono (by omega)⟩ ?_ ?_
    · rintro _ _ ⟨l, acc, a, b, c, o7, o8, rfl, rfl, h, hl, ac⟩
      have hl : l = 5 := by
        rcases hl with ⟨z, _⟩ | ⟨z, _⟩ | ⟨_, z⟩
        · cases z
        · cases z
        · exact z
      exact k1 _ _ ⟨acc, a, b, c, _, _, _, rfl, rfl, h, ac.mono (by omega)⟩
    · rintro l0 r _ _ ⟨l, acc, a, b, c, o7, o8, rfl, rfl, h, hl, ac⟩ T1 k1' k2'
      obtain ⟨hll, hl2, hr⟩ : l ≤ l0 ∧ l0 < 5 ∧ ((r = [4] ∧ l0 + 1 = 1) ∨ (r = [] ∧ l0 + 1 = 5)) := by
        rcases hl with ⟨z, rfl⟩ | ⟨z, rfl⟩ | ⟨z, _⟩
        · injection z with z1 z2
          exact ⟨by omega, by omega, .inl ⟨z2, by omega⟩⟩
        · injection z with z1 z2
          exact ⟨by omega, by omega, .inr ⟨z2, by omega⟩⟩
        · cases z
      walk_at "ev"
      refine ⟨by omega, ?_⟩
      rw [Int.toNat_natCast]
      refine loop_range (fun j ρ μ => ∃ (acc : List Tri) (a b c : Int) (o8 : Option U), ρ = [some (.ptr 0), some (.fz (natD most)), some (.fz letters2), some (.fz (natD n)), some (.ptr 1), some (.fz (.int (1 + (part : Int)))), some (.fz (natD i)), some (.fz (.str (lab l0))), o8] ∧
        μ = [boxU a b c xs, .lst (acc.map fun t => .fz (triD t))] ∧ BoxOk a b c xs ∧ Acc n acc ((i * 5 + l0) * 100 + j)) ⟨acc, a, b, c, o8, rfl, rfl, h, ac.mono (by omega)⟩ ?_ ?_
      · rintro _ _ ⟨acc, a, b, c, o8, rfl, rfl, h, ac⟩
        refine k1' _ _ ⟨l0 + 1, acc, a, b, c, _, _, rfl, rfl, h, ?_, ac.mono (by omega)⟩
        rcases hr with ⟨z, z2⟩ | ⟨z, z2⟩
        · exact .inr (.inl ⟨z, z2⟩)
        · exact .inr (.inr ⟨z, z2⟩)
      · rintro j _ _ hj ⟨acc, a, b, c, o8, rfl, rfl, h, ac⟩ T2 k1'' k2''
        rw [Int.zero_add]
        have al := ac.len (by omega)
        walk_at "ev"
        refine ⟨⟨nd1, rfl⟩, a, b, c, xs, 6, rfl, rfl, h, by omega, by omega, fun t a b c _ h => ⟨⟨Nat.le_refl _, rfl⟩, ?_⟩⟩
        walk_at "ev"
        by_cases ct : (t : Int) < 1 + (part : Int)
        case neg =>
          refine ifF (decide_eq_false ct) ?_
          exact k1'' _ _ ⟨acc, a, b, c, _, rfl, rfl, h, ac.mono (by omega)⟩
        refine ifT (decide_eq_true ct) ?_
        walk_at "ev"
        refine ⟨⟨nd1, rfl⟩, a, b, c, xs, 2, rfl, rfl, h, by omega, by omega, fun t2 a b c _ h => ⟨⟨Nat.le_refl _, rfl⟩, ?_⟩⟩
        walk_at "ev"
        by_cases c2 : (t2 : Int) = 0
        case neg =>
          refine ifF (decF c2) ?_
          exact k1'' _ _ ⟨acc, a, b, c, _, rfl, rfl, h, ac.mono (by omega)⟩
        refine ifT (decT c2) ?_
        walk_at "ev"
        refine ⟨rfl, ?_⟩
        walk_at "ev"
        refine ⟨small (by show 3 ≤ 10000; omega), ?_⟩
        walk_at "ev"
        refine ⟨small1 (by rw [List.length_map]; omega), ?_⟩
        exact k1'' _ _ ⟨acc ++ [(i, l0, j)], a, b, c, _, rfl, by rw [List.map_append]; rfl, h, ac.put hi hl2 hj⟩
theorem lab_in {l : Nat} (h : l < 5) : lab l ∈ labS := by
  have : l = 0 ∨ l = 1 ∨ l = 2 ∨ l = 3 ∨ l = 4 := by omega
  rcases this with rfl | rfl | rfl | rfl | rfl <;> decide +kernel
theorem lab_word {l : Nat} (h : l < 5) : lab l ∈ wordsL := by
  have : l = 0 ∨ l = 1 ∨ l = 2 ∨ l = 3 ∨ l = 4 := by omega
  rcases this with rfl | rfl | rfl | rfl | rfl <;> decide +kernel
theorem od_sysD {S : Sys} (h : SysOk S) {L k : Nat} (hL : 6000 ≤ L) : Od L (k + 4) (sysD S) :=
  od2 (by omega) (.int _ _) (.tup _ _ (by rw [List.length_map]; have := h.few; omega) fun d m => by
    obtain ⟨t, mt, rfl⟩ := List.mem_map.mp m
    exact od3 (by omega) (.int _ _) (.str _ _ (lab_word (h.arr t mt).2.1)) (.int _ _))
theorem lab_lt {i j : Nat} (hi : i < 5) (hj : j < 5) : ltM (.str (lab i)) (.str (lab j)) = decide (i < j) := by
  have hi' : i = 0 ∨ i = 1 ∨ i = 2 ∨ i = 3 ∨ i = 4 := by omega
  have hj' : j = 0 ∨ j = 1 ∨ j = 2 ∨ j = 3 ∨ j = 4 := by omega
  rcases hi' with rfl | rfl | rfl | rfl | rfl <;> rcases hj' with rfl | rfl | rfl | rfl | rfl <;> decide +kernel
theorem lab_eq {i j : Nat} (hi : i < 5) (hj : j < 5) : eqM (.str (lab i)) (.str (lab j)) = decide (i = j) := by
  unfold eqM
  apply Bool.eq_iff_iff.mpr
  rw [beq_iff_eq, decide_eq_true_iff]
  exact lab_inj hi hj
theorem lex_T {p q : Tri} (hp : p.2.1 < 5) (hq : q.2.1 < 5) (hp' : p.2.2 < 100) (hq' : q.2.2 < 100) : lexM [natD p.1, .str (lab p.2.1), natD p.2.2] [natD q.1, .str (lab q.2.1), natD q.2.2] = decide (cod p < cod q) := by
  obtain ⟨a, l, b⟩ := p
  obtain ⟨c, m, d⟩ := q
  simp only at hp hq hp' hq'
  have e0 : eqM (natD a) (natD c) = decide (a = c) := by
    unfold eqM natD; simp only; congr 1; apply propext; omega
  have e1 := lab_eq hp hq
  have e2 : eqM (natD b) (natD d) = decide (b = d) := by
    unfold eqM natD; simp only; congr 1; apply propext; omega
  have l0 : ltM (natD a) (natD c) = decide (a < c) := by
    unfold ltM natD; simp only; congr 1; apply propext; omega
  have l1 := lab_lt hp hq
  have l2 : ltM (natD b) (natD d) = decide (b < d) := by
    unfold ltM natD; simp only; congr 1; apply propext; omega
  simp only [lexM, e0, e1, e2, l0, l1, l2, decide_eq_true_eq, cod]
  split
  · split
    · split
      · rename_i h1 h2 h3
        rw [h1, h2, h3]; simp
      · congr 1; apply propext; omega
    · congr 1; apply propext; omega
  · congr 1; apply propext; omega
theorem sys_sysB {S : Sys} (h : SysOk S) : sysB (sysD S) = true := by
  have h1 := h.n1
  have h12 := h.n12
  show ((decide ((1 : Int) ≤ (S.n : Int)) && decide ((S.n : Int) ≤ 12)) && ((S.arr.map triD).all (arrB S.n) && upB (S.arr.map triD))) = true
  rw [decide_eq_true (by omega), decide_eq_true (by omega)]
  have e1 : (S.arr.map triD).all (arrB S.n) = true := List.all_eq_true.mpr fun d m => by
    obtain ⟨t, mt, rfl⟩ := List.mem_map.mp m
    obtain ⟨t1, t2, t3⟩ := h.arr t mt
    show (decide (lab t.2.1 ∈ labS) && (decide ((0 : Int) ≤ (t.1 : Int)) && decide ((t.1 : Int) < (S.n : Int))) && (decide ((0 : Int) ≤ (t.2.2 : Int)) && decide ((t.2.2 : Int) < (S.n : Int)))) = true
    rw [decide_eq_true (lab_in t2), decide_eq_true (by omega), decide_eq_true (by omega), decide_eq_true (by omega), decide_eq_true (by omega)]
    rfl
  have e2 : upB (S.arr.map triD) = true := List.all_eq_true.mpr fun k mk => by
    have hk := List.mem_range.mp mk
    rw [List.length_map] at hk
    have k1 : k < S.arr.length := by omega
    have k2 : k + 1 < S.arr.length := by omega
    have g : ∀ j (hj : j < S.arr.length), (S.arr.map triD).getD j .non = triD S.arr[j] := fun j hj => by
      rw [List.getD_eq_getElem?_getD, List.getElem?_map, List.getElem?_eq_getElem hj]
      rfl
    rw [g k k1, g (k + 1) k2]
    obtain ⟨a1, a2, a3⟩ := h.arr _ (List.getElem_mem k1)
    obtain ⟨b1, b2, b3⟩ := h.arr _ (List.getElem_mem k2)
    show lexM [natD S.arr[k].1, .str (lab S.arr[k].2.1), natD S.arr[k].2.2] [natD S.arr[k + 1].1, .str (lab S.arr[k + 1].2.1), natD S.arr[k + 1].2.2] = true
    rw [lex_T a2 b2 (by omega) (by omega)]
    exact decide_eq_true (List.pairwise_iff_getElem.mp h.up k (k + 1) k1 k2 (by omega))
  rw [e1, e2]
  rfl
end K19
namespace K19
open PySem PySem.Spec PyProof.Rows L2 W3 CB MS M19
local macro_rules | `(tactic| walk_at "ev") => `(tactic| conv => whnf)
local macro_rules | `(tactic| walk_at "ix") => `(tactic| (refine ⟨_, rfl, ?_⟩; conv => whnf))
theorem r_is_net : Rd sp_is_net N_is_net t_is_net := by
  rintro us μ Q ⟨n, rfl, rfl, q⟩
  have od : Od 7000 20 (.tup [natD n, .tup []]) := od2 (k := 19) (by omega) (.int _ _) (.tup _ _ (by simp) fun d m => by cases m)
  have z0 : V0 (startR N_is_net [.fz (.tup [natD n, .tup []]), .fz (.int 5)]) (.tup [natD n, .tup []]) := rfl
  have x0 : EvE (subX 0 0) (startR N_is_net [.fz (.tup [natD n, .tup []]), .fz (.int 5)]) [] (.fz (natD n)) := ev_ix (ev_0 z0) (ev_c _) rfl
  have x1 : EvE (subX 0 1) (startR N_is_net [.fz (.tup [natD n, .tup []]), .fz (.int 5)]) [] (.fz (.tup [])) := ev_ix (ev_0 z0) (ev_c _) rfl
  have bel : belB 6 (D.int (n : Int)) = decide (n < 6) := by
    show (decide ((0 : Int) ≤ (n : Int)) && decide ((n : Int) < 6)) = _
    rw [decide_eq_true (by omega), Bool.true_and]
    exact dec_congr (by omega)
  refine s_seqIf (ev_or (x := false) ((ev_not (ev_tru (ev_tupl od (ev_0 z0)))).at rfl) fun _ => ev_or (ev_not (ev_tru (ev_below (n := 6) (.int 19 _) (fun Q q => q) x0))) fun _ => ev_not (ev_tru (b := true) (ev_isi x1 rfl))) (fun h => ?_) (fun h => ?_)
  · rw [bel] at h
    have : decide (n < 6) = false := by simpa using h
    rw [this] at q
    exact s_ret (ev_c _) ⟨rfl, q⟩
  · rw [bel] at h
    have : decide (n < 6) = true := by simpa using h
    rw [this] at q
    walk_at "ev"
    refine ⟨_, rfl, ?_⟩
    refine loop_by (e := fun x : D => .fz x) (xs := []) (fun r ρ μ => r = [] ∧ ρ = [some (.fz (.tup [natD n, .tup []])), some (.fz (.int 5)), none, none] ∧ μ = []) ⟨rfl, rfl, rfl⟩ ?_ (fun _ _ _ _ h => by cases h.1)
    rintro _ _ ⟨_, rfl, rfl⟩
    walk_at "ev"
    refine ⟨_, rfl, ?_⟩
    walk_at "ev"
    refine ⟨by decide, ?_⟩
    refine ⟨small (by show 0 ≤ 10000; omega), ?_⟩
    walk_at "ev"
    exact ⟨[], rfl, ⟨rfl, q⟩⟩
/-! ### what is refused -/
theorem rx_check_system : RdX spx_check_system N_check_system tx_check_system := by
  rintro us μ Q E ⟨d, rfl, rfl, o, q1, q2⟩
  refine ⟨⟨List.nodup_nil, rfl⟩, d, rfl, rfl, o, ⟨⟨Nat.le_refl _, rfl⟩, ?_⟩⟩
  cases c : sysB d with
  | true => exact ⟨rfl, q1 c⟩
  | false => exact ⟨rfl, q2 c⟩
theorem rx_check_state : RdX spx_check_state N_check_state tx_check_state := by
  rintro us μ Q E ⟨S, d, rfl, rfl, o, q1, q2⟩
  cases o with
  | int _ i =>
    refine ⟨rfl, _, rfl, rfl, _, rfl, ?_⟩
    have v1 : EvE (wVar 1) (startR N_check_state [.fz (sysD S), .fz (.int i)]) [] (.fz (.int i)) := ev_var rfl
    have ch : EvE (wChain (oLe) (oLt) (wC (.int 0)) (wVar 1) (w2 oIx (wVar 0) (wC (.int 0)))) (startR N_check_state [.fz (sysD S), .fz (.int i)]) [] (.fz (.bl (belB S.n (.int i)))) := ev_chain (ev_c _) v1 (fun Q q => q) (ev_ix (ev_var rfl) (ev_c _) rfl) (fun Q q => q)
    refine ch _ ?_
    cases c : belB S.n (.int i) with
    | true => exact ⟨rfl, q1 c⟩
    | false => exact ⟨rfl, q2 c⟩
  | bl _ b => exact ⟨rfl, _, rfl, rfl, _, rfl, ⟨rfl, q2 rfl⟩⟩
  | _ => exact ⟨rfl, _, rfl, ⟨rfl, q2 rfl⟩⟩
theorem rx_check_both : RdX spx_check_both N_check_both tx_check_both := by
  rintro us μ Q E ⟨d, f, rfl, rfl, o, of, h, q⟩
  refine ⟨⟨List.nodup_nil, rfl⟩, d, rfl, rfl, o, fun c => ⟨⟨Nat.le_refl _, rfl⟩, ?_⟩, fun c => ⟨⟨Nat.le_refl _, rfl⟩, ⟨rfl, q⟩⟩⟩
  rw [c, Bool.true_and] at h
  refine ⟨⟨List.nodup_nil, rfl⟩, f, rfl, rfl, of, ⟨⟨Nat.le_refl _, rfl⟩, ?_⟩⟩
  rw [h]
  exact ⟨rfl, q⟩
theorem rx_classes : RdX spx_classes N_classes tx_classes := by
  rintro us μ Q E ⟨d, rfl, rfl, o, h, q⟩
  exact ⟨⟨List.nodup_nil, rfl⟩, d, rfl, rfl, o, (fun c => by rw [h] at c; cases c), fun c => ⟨⟨Nat.le_refl _, rfl⟩, ⟨rfl, q⟩⟩⟩
theorem rx_alike : RdX spx_alike N_alike tx_alike := by
  rintro us μ Q E ⟨a, x, b, y, rfl, rfl, oa, ox, ob, oy, h⟩
  rcases h with ⟨h, q⟩ | ⟨S, hS, rfl, rfl, h, q⟩
  · exact ⟨⟨List.nodup_nil, rfl⟩, a, rfl, rfl, oa, (fun c => by rw [h] at c; cases c), fun c => ⟨⟨Nat.le_refl _, rfl⟩, ⟨rfl, q⟩⟩⟩
  · have hs := sys_sysB hS
    refine ⟨⟨List.nodup_nil, rfl⟩, _, rfl, rfl, oa, fun c => ⟨⟨Nat.le_refl _, rfl⟩, ?_⟩, (fun c => by rw [hs] at c; cases c)⟩
    refine ⟨⟨List.nodup_nil, rfl⟩, _, rfl, rfl, ob, fun c => ⟨⟨Nat.le_refl _, rfl⟩, ?_⟩, (fun c => by rw [hs] at c; cases c)⟩
    refine ⟨⟨List.nodup_nil, rfl⟩, S, x, rfl, rfl, ox, fun c => ⟨⟨Nat.le_refl _, rfl⟩, ?_⟩, fun c => ⟨⟨Nat.le_refl _, rfl⟩, ⟨rfl, q⟩⟩⟩
    rw [c, Bool.true_and] at h
    exact ⟨⟨List.nodup_nil, rfl⟩, S, y, rfl, rfl, oy, (fun c => by rw [h] at c; cases c), fun c => ⟨⟨Nat.le_refl _, rfl⟩, ⟨rfl, q⟩⟩⟩
theorem rx_is_likeness : RdX spx_is_likeness N_is_likeness tx_is_likeness := by
  rintro us μ Q E ⟨a, b, p, rfl, rfl, oa, ob, ha, hb, q⟩
  refine ⟨⟨List.nodup_nil, rfl⟩, a, rfl, rfl, oa, fun c => ⟨⟨Nat.le_refl _, rfl⟩, ?_⟩, (fun c => by rw [ha] at c; cases c)⟩
  exact ⟨⟨List.nodup_nil, rfl⟩, b, rfl, rfl, ob, (fun c => by rw [hb] at c; cases c), fun c => ⟨⟨Nat.le_refl _, rfl⟩, ⟨rfl, q⟩⟩⟩
theorem rx_where : RdX spx_where N_where tx_where := by
  rintro us μ Q E ⟨d, f, rfl, rfl, o, of, h, q⟩
  exact ⟨⟨List.nodup_nil, rfl⟩, d, f, rfl, rfl, o, of, h, ⟨⟨Nat.le_refl _, rfl⟩, ⟨rfl, q⟩⟩⟩
theorem rx_game_of : RdX spx_game_of N_game_of tx_game_of := by
  rintro us μ Q E ⟨d, f, rfl, rfl, o, of, h, q⟩
  exact ⟨⟨List.nodup_nil, rfl⟩, d, f, rfl, rfl, o, of, h, ⟨⟨Nat.le_refl _, rfl⟩, ⟨rfl, q⟩⟩⟩
theorem rx_holds_at : RdX spx_holds_at N_holds_at tx_holds_at := by
  rintro us μ Q E ⟨S, x, f, rfl, rfl, hS, ox, of, h⟩
  have hs := sys_sysB hS
  refine ⟨⟨List.nodup_nil, rfl⟩, _, rfl, rfl, od_sysD (k := 16) hS (by omega), fun c => ⟨⟨Nat.le_refl _, rfl⟩, ?_⟩, (fun c => by rw [hs] at c; cases c)⟩
  refine ⟨⟨List.nodup_nil, rfl⟩, f, rfl, rfl, of, ⟨⟨Nat.le_refl _, rfl⟩, ?_⟩⟩
  rcases h with ⟨h, q⟩ | ⟨h, hx, q⟩
  · rw [h]
    exact ⟨rfl, q⟩
  · rw [h]
    exact ⟨⟨List.nodup_nil, rfl⟩, S, x, rfl, rfl, ox, (fun c => by rw [hx] at c; cases c), fun c => ⟨⟨Nat.le_refl _, rfl⟩, ⟨rfl, q⟩⟩⟩
theorem rx_check_sentence : RdX spx_check_sentence N_check_sentence tx_check_sentence := by
  rintro us μ Q E ⟨d, rfl, rfl, o, h, q⟩
  refine ⟨⟨List.nodup_nil, rfl⟩, d, rfl, rfl, o, by omega, ⟨⟨Nat.le_refl _, rfl⟩, ?_⟩⟩
  rw [h]
  exact ⟨rfl, q⟩
theorem rx_depth_of : RdX spx_depth_of N_depth_of tx_depth_of := by
  rintro us μ Q E ⟨d, rfl, rfl, o, h, q⟩
  exact ⟨⟨List.nodup_nil, rfl⟩, d, rfl, rfl, o, h, ⟨⟨Nat.le_refl _, rfl⟩, ⟨rfl, q⟩⟩⟩
theorem rx_check_net : RdX spx_check_net N_check_net tx_check_net := by
  rintro us μ Q E ⟨n, rfl, rfl, q1, q2⟩
  refine ⟨⟨List.nodup_nil, rfl⟩, n, rfl, rfl, ⟨⟨Nat.le_refl _, rfl⟩, ?_⟩⟩
  by_cases c : n < 6
  · rw [decide_eq_true c]
    exact ⟨rfl, q1 c⟩
  · rw [decide_eq_false c]
    exact ⟨rfl, q2 (by omega)⟩
theorem rx_apart_by : RdX spx_apart_by N_apart_by tx_apart_by := by
  rintro us μ Q E ⟨n, m, d, rfl, rfl, o, h⟩
  refine ⟨⟨List.nodup_nil, rfl⟩, n, rfl, rfl, fun c => ⟨⟨Nat.le_refl _, rfl⟩, ?_⟩, fun c => ⟨⟨Nat.le_refl _, rfl⟩, ?_⟩⟩
  · rcases h with ⟨h, _⟩ | ⟨_, hm, hd, q⟩
    · omega
    refine ⟨⟨List.nodup_nil, rfl⟩, m, rfl, rfl, fun c => ⟨⟨Nat.le_refl _, rfl⟩, ?_⟩, (fun c => by omega)⟩
    refine ⟨⟨List.nodup_nil, rfl⟩, d, rfl, rfl, o, ⟨⟨Nat.le_refl _, rfl⟩, ?_⟩⟩
    cases c : whB d with
    | false => exact ⟨rfl, q⟩
    | true =>
      cases d <;> first | (cases c; done) | skip
      rename_i i
      have c : decide (0 ≤ i) = true := c
      have hd : (decide (0 ≤ i) && decide (i ≤ 3)) = false := hd
      rw [c, Bool.true_and] at hd
      have := of_decide_eq_false hd
      refine ifT (decide_eq_true (show i > 3 by omega)) ?_
      exact ⟨rfl, q⟩
  · rcases h with ⟨_, q⟩ | ⟨h, _⟩
    · exact ⟨rfl, q⟩
    · omega
end K19
namespace K19
open PySem PySem.Spec PyProof.Rows L2 W3 CB MS M19
local macro_rules | `(tactic| walk_at "ev") => `(tactic| conv => whnf)
local macro_rules | `(tactic| walk_at "ix") => `(tactic| (refine ⟨_, rfl, ?_⟩; conv => whnf))
abbrev lamN : Str := "law.<locals>.<lambda>"
theorem nd1' : ([1] : List Nat).Nodup := by simp
section
variable {ρ : Rho} {μ μr : Mu} {P : Addr} {q x r fin : Str} {rets : List (Str × Str)} {spx : XSpX}
theorem ev_lam1 {a : XE} {d : D} (hμ : μ = .tab 0 P q :: μr) (ha : EvE a ρ μ (.fz d)) (hr : rets.lookup x = some r) (hs : ∀ (Q : UK) (E : Str → Mu → Prop), E x [] → spx [.fz d] [] Q E) : EvE (wLam q rets fin (wFnX spx (wCons a wNil))) ρ μ (.fz (.str r)) := fun Q k => ⟨⟨P, μr, hμ⟩, ha _ ⟨⟨List.nodup_nil, rfl⟩, hs _ _ ⟨⟨Nat.zero_le _, rfl⟩, r, hr, k⟩⟩⟩
theorem ev_lam2 {a b : XE} {d e : D} (hμ : μ = .tab 0 P q :: μr) (ha : EvE a ρ μ (.fz d)) (hb : EvE b ρ μ (.fz e)) (hr : rets.lookup x = some r) (hs : ∀ (Q : UK) (E : Str → Mu → Prop), E x [] → spx [.fz d, .fz e] [] Q E) : EvE (wLam q rets fin (wFnX spx (wCons a (wCons b wNil)))) ρ μ (.fz (.str r)) := fun Q k => ⟨⟨P, μr, hμ⟩, ha _ (hb _ ⟨⟨List.nodup_nil, rfl⟩, hs _ _ ⟨⟨Nat.zero_le _, rfl⟩, r, hr, k⟩⟩)⟩
theorem ev_lam3 {a b c : XE} {d e f : D} (hμ : μ = .tab 0 P q :: μr) (ha : EvE a ρ μ (.fz d)) (hb : EvE b ρ μ (.fz e)) (hc : EvE c ρ μ (.fz f)) (hr : rets.lookup x = some r) (hs : ∀ (Q : UK) (E : Str → Mu → Prop), E x [] → spx [.fz d, .fz e, .fz f] [] Q E) : EvE (wLam q rets fin (wFnX spx (wCons a (wCons b (wCons c wNil))))) ρ μ (.fz (.str r)) := fun Q k => ⟨⟨P, μr, hμ⟩, ha _ (hb _ (hc _ ⟨⟨List.nodup_nil, rfl⟩, hs _ _ ⟨⟨Nat.zero_le _, rfl⟩, r, hr, k⟩⟩))⟩
theorem ev_lam4 {a b c g : XE} {d e f i : D} (hμ : μ = .tab 0 P q :: μr) (ha : EvE a ρ μ (.fz d)) (hb : EvE b ρ μ (.fz e)) (hc : EvE c ρ μ (.fz f)) (hg : EvE g ρ μ (.fz i)) (hr : rets.lookup x = some r) (hs : ∀ (Q : UK) (E : Str → Mu → Prop), E x [] → spx [.fz d, .fz e, .fz f, .fz i] [] Q E) : EvE (wLam q rets fin (wFnX spx (wCons a (wCons b (wCons c (wCons g wNil)))))) ρ μ (.fz (.str r)) := fun Q k => ⟨⟨P, μr, hμ⟩, ha _ (hb _ (hc _ (hg _ ⟨⟨List.nodup_nil, rfl⟩, hs _ _ ⟨⟨Nat.zero_le _, rfl⟩, r, hr, k⟩⟩)))⟩
theorem ev_tup0 : EvE (wTup wNil) ρ μ (.fz (.tup [])) := fun Q k => ⟨small (by show 0 ≤ 10000; omega), k⟩
theorem ev_tup1 {a : XE} {d : D} (ha : EvE a ρ μ (.fz d)) : EvE (wTup (wCons a wNil)) ρ μ (.fz (.tup [d])) := fun Q k => ha _ ⟨small (by show 1 ≤ 10000; omega), k⟩
theorem ev_tup2 {a b : XE} {d e : D} (ha : EvE a ρ μ (.fz d)) (hb : EvE b ρ μ (.fz e)) : EvE (wTup (wCons a (wCons b wNil))) ρ μ (.fz (.tup [d, e])) := fun Q k => ha _ (hb _ ⟨small (by show 2 ≤ 10000; omega), k⟩)
end
def t_l2 : XS :=
  (wSeq (wSet 4 (wFn sp__law_pick (wCons (wVar 1) (wCons (wLst false (wCons (w2 oIx (wVar 9) (wC (.int 0))) (wCons (w1 oNeg (wC (.int 1))) (wCons (wC .non) (wCons (wC (.bl true)) (wCons (wC (.str "a")) wNil)))))) wNil))))
  (wSeq (wSet 3 (wLst true wNil))
  (wSeq (wIfS (wNot (wTru (wFn sp__law_is_system (wCons (wVar 6) wNil)))) (wSeq (wDrop (wMeth oAppend (wVar 3) (wCons (wLam "law.<locals>.<lambda>" rets__law_refusal fin__law_refusal (wFnX spx_classes (wCons (wVar 6) wNil))) wNil)))
  (wSeq (wDrop (wMeth oAppend (wVar 3) (wCons (wLam "law.<locals>.<lambda>" rets__law_refusal fin__law_refusal (wFnX spx_alike (wCons (wVar 6) (wCons (wVar 4) (wCons (wVar 9) (wCons (wC (.int 0)) wNil)))))) wNil)))
  (wSeq (wDrop (wMeth oAppend (wVar 3) (wCons (wLam "law.<locals>.<lambda>" rets__law_refusal fin__law_refusal (wFnX spx_is_likeness (wCons (wVar 9) (wCons (wVar 6) (wCons (wTup wNil) wNil))))) wNil)))
  (wDrop (wMeth oAppend (wVar 3) (wCons (wLam "law.<locals>.<lambda>" rets__law_refusal fin__law_refusal (wFnX spx_where (wCons (wVar 6) (wCons (wTup (wCons (wC (.str "true")) wNil)) wNil)))) wNil)))))) wNext)
  (wSeq (wIfS (wNot (wTru (wFn sp__law_is_formula (wCons (wVar 7) (wCons (wVar 2) wNil))))) (wDrop (wMeth oAppend (wVar 3) (wCons (wLam "law.<locals>.<lambda>" rets__law_refusal fin__law_refusal (wFnX spx_holds_at (wCons (wVar 9) (wCons (wVar 4) (wCons (wVar 7) wNil))))) wNil))) wNext)
  (wSeq (wIfS (wNot (wTru (wFn sp__law_is_wide (wCons (wVar 10) (wCons (wVar 2) (wCons (wLst false wNil) (wCons (wC (.bl true)) wNil))))))) (wSeq (wDrop (wMeth oAppend (wVar 3) (wCons (wLam "law.<locals>.<lambda>" rets__law_refusal fin__law_refusal (wFnX spx_where (wCons (wVar 9) (wCons (wVar 10) wNil)))) wNil)))
  (wDrop (wMeth oAppend (wVar 3) (wCons (wLam "law.<locals>.<lambda>" rets__law_refusal fin__law_refusal (wFnX spx_game_of (wCons (wVar 9) (wCons (wVar 10) wNil)))) wNil)))) wNext)
  (wSeq (wIfS (wNot (wTru (wFn sp__law_is_sentence (wCons (wVar 8) wNil)))) (wDrop (wMeth oAppend (wVar 3) (wCons (wLam "law.<locals>.<lambda>" rets__law_refusal fin__law_refusal (wFnX spx_depth_of (wCons (wVar 8) wNil))) wNil))) wNext)
  (wSeq (wDrop (wMeth oAppend (wVar 3) (wCons (wLam "law.<locals>.<lambda>" rets__law_refusal fin__law_refusal (wFnX spx_apart_by (wCons (wTup (wCons (wC (.int 6)) (wCons (wTup wNil) wNil))) (wCons (wTup (wCons (wC (.int 0)) (wCons (wTup wNil) wNil))) (wCons (wC (.int 9)) wNil))))) wNil)))
  (wSeq (wIfS (wB (w2 (oEq true) (wVar 3) (w2 (oMul false) (wLst false (wCons (wC (.str "BadGame")) wNil)) (wCall (c1 oLen) (wCons (wVar 3) wNil))))) (wRet (wC (.bl false))) wNext)
  (wSeq (wSet 3 (wLst true (wCons (wLam "law.<locals>.<lambda>" rets__law_refusal fin__law_refusal (wFnX spx_alike (wCons (wVar 9) (wCons (wVar 4) (wCons (wVar 9) (wCons (wC (.int 0)) wNil)))))) wNil)))
  (wSeq (wDrop (wMeth oAppend (wVar 3) (wCons (wLam "law.<locals>.<lambda>" rets__law_refusal fin__law_refusal (wFnX spx_alike (wCons (wVar 9) (wCons (wC (.int 0)) (wCons (wVar 9) (wCons (wVar 4) wNil)))))) wNil)))
  (wSeq (wDrop (wMeth oAppend (wVar 3) (wCons (wLam "law.<locals>.<lambda>" rets__law_refusal fin__law_refusal (wFnX spx_holds_at (wCons (wVar 9) (wCons (wVar 4) (wCons (wTup (wCons (wC (.str "true")) wNil)) wNil))))) wNil)))
  (wSeq (wIfS (wB (w2 (oEq true) (wVar 3) (w2 (oMul false) (wLst false (wCons (wC (.str "BadPlace")) wNil)) (wC (.int 3))))) (wRet (wC (.bl false))) wNext)
  (wSeq (wSet 5 (wFn sp__law_pick (wCons (wVar 1) (wCons (wLst false (wCons (wC (.int 4)) (wCons (w1 oNeg (wC (.int 1))) (wCons (wC (.int 7)) (wCons (wC .non) wNil))))) wNil))))
  (wRet (w2 (oEq false) (wLam "law.<locals>.<lambda>" rets__law_refusal fin__law_refusal (wFnX spx_apart_by (wCons (wTup (wCons (wC (.int 0)) (wCons (wTup wNil) wNil))) (wCons (wTup (wCons (wC (.int 1)) (wCons (wTup wNil) wNil))) (wCons (wVar 5) wNil))))) (wC (.str "TooMuch")))))))))))))))))
def t_l5 : XS :=
  (wSeq (wIfS (wB (w2 (oEq true) (wVar 3) (w2 (oMul false) (wLst false (wCons (wC (.str "BadGame")) wNil)) (wCall (c1 oLen) (wCons (wVar 3) wNil))))) (wRet (wC (.bl false))) wNext)
  (wSeq (wSet 3 (wLst true (wCons (wLam "law.<locals>.<lambda>" rets__law_refusal fin__law_refusal (wFnX spx_alike (wCons (wVar 9) (wCons (wVar 4) (wCons (wVar 9) (wCons (wC (.int 0)) wNil)))))) wNil)))
  (wSeq (wDrop (wMeth oAppend (wVar 3) (wCons (wLam "law.<locals>.<lambda>" rets__law_refusal fin__law_refusal (wFnX spx_alike (wCons (wVar 9) (wCons (wC (.int 0)) (wCons (wVar 9) (wCons (wVar 4) wNil)))))) wNil)))
  (wSeq (wDrop (wMeth oAppend (wVar 3) (wCons (wLam "law.<locals>.<lambda>" rets__law_refusal fin__law_refusal (wFnX spx_holds_at (wCons (wVar 9) (wCons (wVar 4) (wCons (wTup (wCons (wC (.str "true")) wNil)) wNil))))) wNil)))
  (wSeq (wIfS (wB (w2 (oEq true) (wVar 3) (w2 (oMul false) (wLst false (wCons (wC (.str "BadPlace")) wNil)) (wC (.int 3))))) (wRet (wC (.bl false))) wNext)
  (wSeq (wSet 5 (wFn sp__law_pick (wCons (wVar 1) (wCons (wLst false (wCons (wC (.int 4)) (wCons (w1 oNeg (wC (.int 1))) (wCons (wC (.int 7)) (wCons (wC .non) wNil))))) wNil))))
  (wRet (w2 (oEq false) (wLam "law.<locals>.<lambda>" rets__law_refusal fin__law_refusal (wFnX spx_apart_by (wCons (wTup (wCons (wC (.int 0)) (wCons (wTup wNil) wNil))) (wCons (wTup (wCons (wC (.int 1)) (wCons (wTup wNil) wNil))) (wCons (wVar 5) wNil))))) (wC (.str "TooMuch"))))))))))
def t_l6 : XS :=
  (wSeq (wSet 3 (wLst true (wCons (wLam "law.<locals>.<lambda>" rets__law_refusal fin__law_refusal (wFnX spx_alike (wCons (wVar 9) (wCons (wVar 4) (wCons (wVar 9) (wCons (wC (.int 0)) wNil)))))) wNil)))
  (wSeq (wDrop (wMeth oAppend (wVar 3) (wCons (wLam "law.<locals>.<lambda>" rets__law_refusal fin__law_refusal (wFnX spx_alike (wCons (wVar 9) (wCons (wC (.int 0)) (wCons (wVar 9) (wCons (wVar 4) wNil)))))) wNil)))
  (wSeq (wDrop (wMeth oAppend (wVar 3) (wCons (wLam "law.<locals>.<lambda>" rets__law_refusal fin__law_refusal (wFnX spx_holds_at (wCons (wVar 9) (wCons (wVar 4) (wCons (wTup (wCons (wC (.str "true")) wNil)) wNil))))) wNil)))
  (wSeq (wIfS (wB (w2 (oEq true) (wVar 3) (w2 (oMul false) (wLst false (wCons (wC (.str "BadPlace")) wNil)) (wC (.int 3))))) (wRet (wC (.bl false))) wNext)
  (wSeq (wSet 5 (wFn sp__law_pick (wCons (wVar 1) (wCons (wLst false (wCons (wC (.int 4)) (wCons (w1 oNeg (wC (.int 1))) (wCons (wC (.int 7)) (wCons (wC .non) wNil))))) wNil))))
  (wRet (w2 (oEq false) (wLam "law.<locals>.<lambda>" rets__law_refusal fin__law_refusal (wFnX spx_apart_by (wCons (wTup (wCons (wC (.int 0)) (wCons (wTup wNil) wNil))) (wCons (wTup (wCons (wC (.int 1)) (wCons (wTup wNil) wNil))) (wCons (wVar 5) wNil))))) (wC (.str "TooMuch")))))))))
def t_l4 : XS :=
  (wSeq (wIfS (wNot (wTru (wFn sp__law_is_formula (wCons (wVar 7) (wCons (wVar 2) wNil))))) (wDrop (wMeth oAppend (wVar 3) (wCons (wLam "law.<locals>.<lambda>" rets__law_refusal fin__law_refusal (wFnX spx_holds_at (wCons (wVar 9) (wCons (wVar 4) (wCons (wVar 7) wNil))))) wNil))) wNext)
  (wSeq (wIfS (wNot (wTru (wFn sp__law_is_wide (wCons (wVar 10) (wCons (wVar 2) (wCons (wLst false wNil) (wCons (wC (.bl true)) wNil))))))) (wSeq (wDrop (wMeth oAppend (wVar 3) (wCons (wLam "law.<locals>.<lambda>" rets__law_refusal fin__law_refusal (wFnX spx_where (wCons (wVar 9) (wCons (wVar 10) wNil)))) wNil)))
  (wDrop (wMeth oAppend (wVar 3) (wCons (wLam "law.<locals>.<lambda>" rets__law_refusal fin__law_refusal (wFnX spx_game_of (wCons (wVar 9) (wCons (wVar 10) wNil)))) wNil)))) wNext)
  (wSeq (wIfS (wNot (wTru (wFn sp__law_is_sentence (wCons (wVar 8) wNil)))) (wDrop (wMeth oAppend (wVar 3) (wCons (wLam "law.<locals>.<lambda>" rets__law_refusal fin__law_refusal (wFnX spx_depth_of (wCons (wVar 8) wNil))) wNil))) wNext)
  (wSeq (wDrop (wMeth oAppend (wVar 3) (wCons (wLam "law.<locals>.<lambda>" rets__law_refusal fin__law_refusal (wFnX spx_apart_by (wCons (wTup (wCons (wC (.int 6)) (wCons (wTup wNil) wNil))) (wCons (wTup (wCons (wC (.int 0)) (wCons (wTup wNil) wNil))) (wCons (wC (.int 9)) wNil))))) wNil)))
  (wSeq (wIfS (wB (w2 (oEq true) (wVar 3) (w2 (oMul false) (wLst false (wCons (wC (.str "BadGame")) wNil)) (wCall (c1 oLen) (wCons (wVar 3) wNil))))) (wRet (wC (.bl false))) wNext)
  (wSeq (wSet 3 (wLst true (wCons (wLam "law.<locals>.<lambda>" rets__law_refusal fin__law_refusal (wFnX spx_alike (wCons (wVar 9) (wCons (wVar 4) (wCons (wVar 9) (wCons (wC (.int 0)) wNil)))))) wNil)))
  (wSeq (wDrop (wMeth oAppend (wVar 3) (wCons (wLam "law.<locals>.<lambda>" rets__law_refusal fin__law_refusal (wFnX spx_alike (wCons (wVar 9) (wCons (wC (.int 0)) (wCons (wVar 9) (wCons (wVar 4) wNil)))))) wNil)))
  (wSeq (wDrop (wMeth oAppend (wVar 3) (wCons (wLam "law.<locals>.<lambda>" rets__law_refusal fin__law_refusal (wFnX spx_holds_at (wCons (wVar 9) (wCons (wVar 4) (wCons (wTup (wCons (wC (.str "true")) wNil)) wNil))))) wNil)))
  (wSeq (wIfS (wB (w2 (oEq true) (wVar 3) (w2 (oMul false) (wLst false (wCons (wC (.str "BadPlace")) wNil)) (wC (.int 3))))) (wRet (wC (.bl false))) wNext)
  (wSeq (wSet 5 (wFn sp__law_pick (wCons (wVar 1) (wCons (wLst false (wCons (wC (.int 4)) (wCons (w1 oNeg (wC (.int 1))) (wCons (wC (.int 7)) (wCons (wC .non) wNil))))) wNil))))
  (wRet (w2 (oEq false) (wLam "law.<locals>.<lambda>" rets__law_refusal fin__law_refusal (wFnX spx_apart_by (wCons (wTup (wCons (wC (.int 0)) (wCons (wTup wNil) wNil))) (wCons (wTup (wCons (wC (.int 1)) (wCons (wTup wNil) wNil))) (wCons (wVar 5) wNil))))) (wC (.str "TooMuch"))))))))))))))
def t_l4b : XS :=
  (wSeq (wIfS (wNot (wTru (wFn sp__law_is_wide (wCons (wVar 10) (wCons (wVar 2) (wCons (wLst false wNil) (wCons (wC (.bl true)) wNil))))))) (wSeq (wDrop (wMeth oAppend (wVar 3) (wCons (wLam "law.<locals>.<lambda>" rets__law_refusal fin__law_refusal (wFnX spx_where (wCons (wVar 9) (wCons (wVar 10) wNil)))) wNil)))
  (wDrop (wMeth oAppend (wVar 3) (wCons (wLam "law.<locals>.<lambda>" rets__law_refusal fin__law_refusal (wFnX spx_game_of (wCons (wVar 9) (wCons (wVar 10) wNil)))) wNil)))) wNext)
  (wSeq (wIfS (wNot (wTru (wFn sp__law_is_sentence (wCons (wVar 8) wNil)))) (wDrop (wMeth oAppend (wVar 3) (wCons (wLam "law.<locals>.<lambda>" rets__law_refusal fin__law_refusal (wFnX spx_depth_of (wCons (wVar 8) wNil))) wNil))) wNext)
  (wSeq (wDrop (wMeth oAppend (wVar 3) (wCons (wLam "law.<locals>.<lambda>" rets__law_refusal fin__law_refusal (wFnX spx_apart_by (wCons (wTup (wCons (wC (.int 6)) (wCons (wTup wNil) wNil))) (wCons (wTup (wCons (wC (.int 0)) (wCons (wTup wNil) wNil))) (wCons (wC (.int 9)) wNil))))) wNil)))
  (wSeq (wIfS (wB (w2 (oEq true) (wVar 3) (w2 (oMul false) (wLst false (wCons (wC (.str "BadGame")) wNil)) (wCall (c1 oLen) (wCons (wVar 3) wNil))))) (wRet (wC (.bl false))) wNext)
  (wSeq (wSet 3 (wLst true (wCons (wLam "law.<locals>.<lambda>" rets__law_refusal fin__law_refusal (wFnX spx_alike (wCons (wVar 9) (wCons (wVar 4) (wCons (wVar 9) (wCons (wC (.int 0)) wNil)))))) wNil)))
  (wSeq (wDrop (wMeth oAppend (wVar 3) (wCons (wLam "law.<locals>.<lambda>" rets__law_refusal fin__law_refusal (wFnX spx_alike (wCons (wVar 9) (wCons (wC (.int 0)) (wCons (wVar 9) (wCons (wVar 4) wNil)))))) wNil)))
  (wSeq (wDrop (wMeth oAppend (wVar 3) (wCons (wLam "law.<locals>.<lambda>" rets__law_refusal fin__law_refusal (wFnX spx_holds_at (wCons (wVar 9) (wCons (wVar 4) (wCons (wTup (wCons (wC (.str "true")) wNil)) wNil))))) wNil)))
  (wSeq (wIfS (wB (w2 (oEq true) (wVar 3) (w2 (oMul false) (wLst false (wCons (wC (.str "BadPlace")) wNil)) (wC (.int 3))))) (wRet (wC (.bl false))) wNext)
  (wSeq (wSet 5 (wFn sp__law_pick (wCons (wVar 1) (wCons (wLst false (wCons (wC (.int 4)) (wCons (w1 oNeg (wC (.int 1))) (wCons (wC (.int 7)) (wCons (wC .non) wNil))))) wNil))))
  (wRet (w2 (oEq false) (wLam "law.<locals>.<lambda>" rets__law_refusal fin__law_refusal (wFnX spx_apart_by (wCons (wTup (wCons (wC (.int 0)) (wCons (wTup wNil) wNil))) (wCons (wTup (wCons (wC (.int 1)) (wCons (wTup wNil) wNil))) (wCons (wVar 5) wNil))))) (wC (.str "TooMuch")))))))))))))
def t_l4c : XS :=
  (wSeq (wIfS (wNot (wTru (wFn sp__law_is_sentence (wCons (wVar 8) wNil)))) (wDrop (wMeth oAppend (wVar 3) (wCons (wLam "law.<locals>.<lambda>" rets__law_refusal fin__law_refusal (wFnX spx_depth_of (wCons (wVar 8) wNil))) wNil))) wNext)
  (wSeq (wDrop (wMeth oAppend (wVar 3) (wCons (wLam "law.<locals>.<lambda>" rets__law_refusal fin__law_refusal (wFnX spx_apart_by (wCons (wTup (wCons (wC (.int 6)) (wCons (wTup wNil) wNil))) (wCons (wTup (wCons (wC (.int 0)) (wCons (wTup wNil) wNil))) (wCons (wC (.int 9)) wNil))))) wNil)))
  (wSeq (wIfS (wB (w2 (oEq true) (wVar 3) (w2 (oMul false) (wLst false (wCons (wC (.str "BadGame")) wNil)) (wCall (c1 oLen) (wCons (wVar 3) wNil))))) (wRet (wC (.bl false))) wNext)
  (wSeq (wSet 3 (wLst true (wCons (wLam "law.<locals>.<lambda>" rets__law_refusal fin__law_refusal (wFnX spx_alike (wCons (wVar 9) (wCons (wVar 4) (wCons (wVar 9) (wCons (wC (.int 0)) wNil)))))) wNil)))
  (wSeq (wDrop (wMeth oAppend (wVar 3) (wCons (wLam "law.<locals>.<lambda>" rets__law_refusal fin__law_refusal (wFnX spx_alike (wCons (wVar 9) (wCons (wC (.int 0)) (wCons (wVar 9) (wCons (wVar 4) wNil)))))) wNil)))
  (wSeq (wDrop (wMeth oAppend (wVar 3) (wCons (wLam "law.<locals>.<lambda>" rets__law_refusal fin__law_refusal (wFnX spx_holds_at (wCons (wVar 9) (wCons (wVar 4) (wCons (wTup (wCons (wC (.str "true")) wNil)) wNil))))) wNil)))
  (wSeq (wIfS (wB (w2 (oEq true) (wVar 3) (w2 (oMul false) (wLst false (wCons (wC (.str "BadPlace")) wNil)) (wC (.int 3))))) (wRet (wC (.bl false))) wNext)
  (wSeq (wSet 5 (wFn sp__law_pick (wCons (wVar 1) (wCons (wLst false (wCons (wC (.int 4)) (wCons (w1 oNeg (wC (.int 1))) (wCons (wC (.int 7)) (wCons (wC .non) wNil))))) wNil))))
  (wRet (w2 (oEq false) (wLam "law.<locals>.<lambda>" rets__law_refusal fin__law_refusal (wFnX spx_apart_by (wCons (wTup (wCons (wC (.int 0)) (wCons (wTup wNil) wNil))) (wCons (wTup (wCons (wC (.int 1)) (wCons (wTup wNil) wNil))) (wCons (wVar 5) wNil))))) (wC (.str "TooMuch"))))))))))))
def t_l4d : XS :=
  (wSeq (wDrop (wMeth oAppend (wVar 3) (wCons (wLam "law.<locals>.<lambda>" rets__law_refusal fin__law_refusal (wFnX spx_apart_by (wCons (wTup (wCons (wC (.int 6)) (wCons (wTup wNil) wNil))) (wCons (wTup (wCons (wC (.int 0)) (wCons (wTup wNil) wNil))) (wCons (wC (.int 9)) wNil))))) wNil)))
  (wSeq (wIfS (wB (w2 (oEq true) (wVar 3) (w2 (oMul false) (wLst false (wCons (wC (.str "BadGame")) wNil)) (wCall (c1 oLen) (wCons (wVar 3) wNil))))) (wRet (wC (.bl false))) wNext)
  (wSeq (wSet 3 (wLst true (wCons (wLam "law.<locals>.<lambda>" rets__law_refusal fin__law_refusal (wFnX spx_alike (wCons (wVar 9) (wCons (wVar 4) (wCons (wVar 9) (wCons (wC (.int 0)) wNil)))))) wNil)))
  (wSeq (wDrop (wMeth oAppend (wVar 3) (wCons (wLam "law.<locals>.<lambda>" rets__law_refusal fin__law_refusal (wFnX spx_alike (wCons (wVar 9) (wCons (wC (.int 0)) (wCons (wVar 9) (wCons (wVar 4) wNil)))))) wNil)))
  (wSeq (wDrop (wMeth oAppend (wVar 3) (wCons (wLam "law.<locals>.<lambda>" rets__law_refusal fin__law_refusal (wFnX spx_holds_at (wCons (wVar 9) (wCons (wVar 4) (wCons (wTup (wCons (wC (.str "true")) wNil)) wNil))))) wNil)))
  (wSeq (wIfS (wB (w2 (oEq true) (wVar 3) (w2 (oMul false) (wLst false (wCons (wC (.str "BadPlace")) wNil)) (wC (.int 3))))) (wRet (wC (.bl false))) wNext)
  (wSeq (wSet 5 (wFn sp__law_pick (wCons (wVar 1) (wCons (wLst false (wCons (wC (.int 4)) (wCons (w1 oNeg (wC (.int 1))) (wCons (wC (.int 7)) (wCons (wC .non) wNil))))) wNil))))
  (wRet (w2 (oEq false) (wLam "law.<locals>.<lambda>" rets__law_refusal fin__law_refusal (wFnX spx_apart_by (wCons (wTup (wCons (wC (.int 0)) (wCons (wTup wNil) wNil))) (wCons (wTup (wCons (wC (.int 1)) (wCons (wTup wNil) wNil))) (wCons (wVar 5) wNil))))) (wC (.str "TooMuch")))))))))))
def t_l3 : XS :=
  (wSeq (wSet 3 (wLst true wNil))
  (wSeq (wIfS (wNot (wTru (wFn sp__law_is_system (wCons (wVar 6) wNil)))) (wSeq (wDrop (wMeth oAppend (wVar 3) (wCons (wLam "law.<locals>.<lambda>" rets__law_refusal fin__law_refusal (wFnX spx_classes (wCons (wVar 6) wNil))) wNil)))
  (wSeq (wDrop (wMeth oAppend (wVar 3) (wCons (wLam "law.<locals>.<lambda>" rets__law_refusal fin__law_refusal (wFnX spx_alike (wCons (wVar 6) (wCons (wVar 4) (wCons (wVar 9) (wCons (wC (.int 0)) wNil)))))) wNil)))
  (wSeq (wDrop (wMeth oAppend (wVar 3) (wCons (wLam "law.<locals>.<lambda>" rets__law_refusal fin__law_refusal (wFnX spx_is_likeness (wCons (wVar 9) (wCons (wVar 6) (wCons (wTup wNil) wNil))))) wNil)))
  (wDrop (wMeth oAppend (wVar 3) (wCons (wLam "law.<locals>.<lambda>" rets__law_refusal fin__law_refusal (wFnX spx_where (wCons (wVar 6) (wCons (wTup (wCons (wC (.str "true")) wNil)) wNil)))) wNil)))))) wNext)
  (wSeq (wIfS (wNot (wTru (wFn sp__law_is_formula (wCons (wVar 7) (wCons (wVar 2) wNil))))) (wDrop (wMeth oAppend (wVar 3) (wCons (wLam "law.<locals>.<lambda>" rets__law_refusal fin__law_refusal (wFnX spx_holds_at (wCons (wVar 9) (wCons (wVar 4) (wCons (wVar 7) wNil))))) wNil))) wNext)
  (wSeq (wIfS (wNot (wTru (wFn sp__law_is_wide (wCons (wVar 10) (wCons (wVar 2) (wCons (wLst false wNil) (wCons (wC (.bl true)) wNil))))))) (wSeq (wDrop (wMeth oAppend (wVar 3) (wCons (wLam "law.<locals>.<lambda>" rets__law_refusal fin__law_refusal (wFnX spx_where (wCons (wVar 9) (wCons (wVar 10) wNil)))) wNil)))
  (wDrop (wMeth oAppend (wVar 3) (wCons (wLam "law.<locals>.<lambda>" rets__law_refusal fin__law_refusal (wFnX spx_game_of (wCons (wVar 9) (wCons (wVar 10) wNil)))) wNil)))) wNext)
  (wSeq (wIfS (wNot (wTru (wFn sp__law_is_sentence (wCons (wVar 8) wNil)))) (wDrop (wMeth oAppend (wVar 3) (wCons (wLam "law.<locals>.<lambda>" rets__law_refusal fin__law_refusal (wFnX spx_depth_of (wCons (wVar 8) wNil))) wNil))) wNext)
  (wSeq (wDrop (wMeth oAppend (wVar 3) (wCons (wLam "law.<locals>.<lambda>" rets__law_refusal fin__law_refusal (wFnX spx_apart_by (wCons (wTup (wCons (wC (.int 6)) (wCons (wTup wNil) wNil))) (wCons (wTup (wCons (wC (.int 0)) (wCons (wTup wNil) wNil))) (wCons (wC (.int 9)) wNil))))) wNil)))
  (wSeq (wIfS (wB (w2 (oEq true) (wVar 3) (w2 (oMul false) (wLst false (wCons (wC (.str "BadGame")) wNil)) (wCall (c1 oLen) (wCons (wVar 3) wNil))))) (wRet (wC (.bl false))) wNext)
  (wSeq (wSet 3 (wLst true (wCons (wLam "law.<locals>.<lambda>" rets__law_refusal fin__law_refusal (wFnX spx_alike (wCons (wVar 9) (wCons (wVar 4) (wCons (wVar 9) (wCons (wC (.int 0)) wNil)))))) wNil)))
  (wSeq (wDrop (wMeth oAppend (wVar 3) (wCons (wLam "law.<locals>.<lambda>" rets__law_refusal fin__law_refusal (wFnX spx_alike (wCons (wVar 9) (wCons (wC (.int 0)) (wCons (wVar 9) (wCons (wVar 4) wNil)))))) wNil)))
  (wSeq (wDrop (wMeth oAppend (wVar 3) (wCons (wLam "law.<locals>.<lambda>" rets__law_refusal fin__law_refusal (wFnX spx_holds_at (wCons (wVar 9) (wCons (wVar 4) (wCons (wTup (wCons (wC (.str "true")) wNil)) wNil))))) wNil)))
  (wSeq (wIfS (wB (w2 (oEq true) (wVar 3) (w2 (oMul false) (wLst false (wCons (wC (.str "BadPlace")) wNil)) (wC (.int 3))))) (wRet (wC (.bl false))) wNext)
  (wSeq (wSet 5 (wFn sp__law_pick (wCons (wVar 1) (wCons (wLst false (wCons (wC (.int 4)) (wCons (w1 oNeg (wC (.int 1))) (wCons (wC (.int 7)) (wCons (wC .non) wNil))))) wNil))))
  (wRet (w2 (oEq false) (wLam "law.<locals>.<lambda>" rets__law_refusal fin__law_refusal (wFnX spx_apart_by (wCons (wTup (wCons (wC (.int 0)) (wCons (wTup wNil) wNil))) (wCons (wTup (wCons (wC (.int 1)) (wCons (wTup wNil) wNil))) (wCons (wVar 5) wNil))))) (wC (.str "TooMuch"))))))))))))))))
def t_l1 : XS :=
  (wSeq (wIfS (wNot (wTru (wFn sp__law_says (wCons (wFn sp_is_system (wCons (wVar 6) wNil)) (wCons (wFn sp__law_is_system (wCons (wVar 6) wNil)) wNil))))) (wRet (wC (.bl false))) wNext)
  (wSeq (wIfS (wNot (wTru (wFn sp__law_says (wCons (wFn sp_is_formula (wCons (wVar 7) wNil)) (wCons (wFn sp__law_is_formula (wCons (wVar 7) (wCons (wVar 2) wNil))) wNil))))) (wRet (wC (.bl false))) wNext)
  (wSeq (wIfS (wNot (wTru (wFn sp__law_says (wCons (wFn sp_is_wide (wCons (wVar 10) wNil)) (wCons (wFn sp__law_is_wide (wCons (wVar 10) (wCons (wVar 2) (wCons (wLst false wNil) (wCons (wC (.bl true)) wNil))))) wNil))))) (wRet (wC (.bl false))) wNext)
  (wSeq (wIfS (wNot (wTru (wFn sp__law_says (wCons (wFn sp_is_sentence (wCons (wVar 8) wNil)) (wCons (wFn sp__law_is_sentence (wCons (wVar 8) wNil)) wNil))))) (wRet (wC (.bl false))) wNext)
  (wSeq (wSet 4 (wFn sp__law_pick (wCons (wVar 1) (wCons (wLst false (wCons (w2 oIx (wVar 9) (wC (.int 0))) (wCons (w1 oNeg (wC (.int 1))) (wCons (wC .non) (wCons (wC (.bl true)) (wCons (wC (.str "a")) wNil)))))) wNil))))
  (wSeq (wSet 3 (wLst true wNil))
  (wSeq (wIfS (wNot (wTru (wFn sp__law_is_system (wCons (wVar 6) wNil)))) (wSeq (wDrop (wMeth oAppend (wVar 3) (wCons (wLam "law.<locals>.<lambda>" rets__law_refusal fin__law_refusal (wFnX spx_classes (wCons (wVar 6) wNil))) wNil)))
  (wSeq (wDrop (wMeth oAppend (wVar 3) (wCons (wLam "law.<locals>.<lambda>" rets__law_refusal fin__law_refusal (wFnX spx_alike (wCons (wVar 6) (wCons (wVar 4) (wCons (wVar 9) (wCons (wC (.int 0)) wNil)))))) wNil)))
  (wSeq (wDrop (wMeth oAppend (wVar 3) (wCons (wLam "law.<locals>.<lambda>" rets__law_refusal fin__law_refusal (wFnX spx_is_likeness (wCons (wVar 9) (wCons (wVar 6) (wCons (wTup wNil) wNil))))) wNil)))
  (wDrop (wMeth oAppend (wVar 3) (wCons (wLam "law.<locals>.<lambda>" rets__law_refusal fin__law_refusal (wFnX spx_where (wCons (wVar 6) (wCons (wTup (wCons (wC (.str "true")) wNil)) wNil)))) wNil)))))) wNext)
  (wSeq (wIfS (wNot (wTru (wFn sp__law_is_formula (wCons (wVar 7) (wCons (wVar 2) wNil))))) (wDrop (wMeth oAppend (wVar 3) (wCons (wLam "law.<locals>.<lambda>" rets__law_refusal fin__law_refusal (wFnX spx_holds_at (wCons (wVar 9) (wCons (wVar 4) (wCons (wVar 7) wNil))))) wNil))) wNext)
  (wSeq (wIfS (wNot (wTru (wFn sp__law_is_wide (wCons (wVar 10) (wCons (wVar 2) (wCons (wLst false wNil) (wCons (wC (.bl true)) wNil))))))) (wSeq (wDrop (wMeth oAppend (wVar 3) (wCons (wLam "law.<locals>.<lambda>" rets__law_refusal fin__law_refusal (wFnX spx_where (wCons (wVar 9) (wCons (wVar 10) wNil)))) wNil)))
  (wDrop (wMeth oAppend (wVar 3) (wCons (wLam "law.<locals>.<lambda>" rets__law_refusal fin__law_refusal (wFnX spx_game_of (wCons (wVar 9) (wCons (wVar 10) wNil)))) wNil)))) wNext)
  (wSeq (wIfS (wNot (wTru (wFn sp__law_is_sentence (wCons (wVar 8) wNil)))) (wDrop (wMeth oAppend (wVar 3) (wCons (wLam "law.<locals>.<lambda>" rets__law_refusal fin__law_refusal (wFnX spx_depth_of (wCons (wVar 8) wNil))) wNil))) wNext)
  (wSeq (wDrop (wMeth oAppend (wVar 3) (wCons (wLam "law.<locals>.<lambda>" rets__law_refusal fin__law_refusal (wFnX spx_apart_by (wCons (wTup (wCons (wC (.int 6)) (wCons (wTup wNil) wNil))) (wCons (wTup (wCons (wC (.int 0)) (wCons (wTup wNil) wNil))) (wCons (wC (.int 9)) wNil))))) wNil)))
  (wSeq (wIfS (wB (w2 (oEq true) (wVar 3) (w2 (oMul false) (wLst false (wCons (wC (.str "BadGame")) wNil)) (wCall (c1 oLen) (wCons (wVar 3) wNil))))) (wRet (wC (.bl false))) wNext)
  (wSeq (wSet 3 (wLst true (wCons (wLam "law.<locals>.<lambda>" rets__law_refusal fin__law_refusal (wFnX spx_alike (wCons (wVar 9) (wCons (wVar 4) (wCons (wVar 9) (wCons (wC (.int 0)) wNil)))))) wNil)))
  (wSeq (wDrop (wMeth oAppend (wVar 3) (wCons (wLam "law.<locals>.<lambda>" rets__law_refusal fin__law_refusal (wFnX spx_alike (wCons (wVar 9) (wCons (wC (.int 0)) (wCons (wVar 9) (wCons (wVar 4) wNil)))))) wNil)))
  (wSeq (wDrop (wMeth oAppend (wVar 3) (wCons (wLam "law.<locals>.<lambda>" rets__law_refusal fin__law_refusal (wFnX spx_holds_at (wCons (wVar 9) (wCons (wVar 4) (wCons (wTup (wCons (wC (.str "true")) wNil)) wNil))))) wNil)))
  (wSeq (wIfS (wB (w2 (oEq true) (wVar 3) (w2 (oMul false) (wLst false (wCons (wC (.str "BadPlace")) wNil)) (wC (.int 3))))) (wRet (wC (.bl false))) wNext)
  (wSeq (wSet 5 (wFn sp__law_pick (wCons (wVar 1) (wCons (wLst false (wCons (wC (.int 4)) (wCons (w1 oNeg (wC (.int 1))) (wCons (wC (.int 7)) (wCons (wC .non) wNil))))) wNil))))
  (wRet (w2 (oEq false) (wLam "law.<locals>.<lambda>" rets__law_refusal fin__law_refusal (wFnX spx_apart_by (wCons (wTup (wCons (wC (.int 0)) (wCons (wTup wNil) wNil))) (wCons (wTup (wCons (wC (.int 1)) (wCons (wTup wNil) wNil))) (wCons (wVar 5) wNil))))) (wC (.str "TooMuch")))))))))))))))))))))
def t_l3b : XS :=
  (wSeq (wIfS (wNot (wTru (wFn sp__law_is_system (wCons (wVar 6) wNil)))) (wSeq (wDrop (wMeth oAppend (wVar 3) (wCons (wLam "law.<locals>.<lambda>" rets__law_refusal fin__law_refusal (wFnX spx_classes (wCons (wVar 6) wNil))) wNil)))
  (wSeq (wDrop (wMeth oAppend (wVar 3) (wCons (wLam "law.<locals>.<lambda>" rets__law_refusal fin__law_refusal (wFnX spx_alike (wCons (wVar 6) (wCons (wVar 4) (wCons (wVar 9) (wCons (wC (.int 0)) wNil)))))) wNil)))
  (wSeq (wDrop (wMeth oAppend (wVar 3) (wCons (wLam "law.<locals>.<lambda>" rets__law_refusal fin__law_refusal (wFnX spx_is_likeness (wCons (wVar 9) (wCons (wVar 6) (wCons (wTup wNil) wNil))))) wNil)))
  (wDrop (wMeth oAppend (wVar 3) (wCons (wLam "law.<locals>.<lambda>" rets__law_refusal fin__law_refusal (wFnX spx_where (wCons (wVar 6) (wCons (wTup (wCons (wC (.str "true")) wNil)) wNil)))) wNil)))))) wNext)
  (wSeq (wIfS (wNot (wTru (wFn sp__law_is_formula (wCons (wVar 7) (wCons (wVar 2) wNil))))) (wDrop (wMeth oAppend (wVar 3) (wCons (wLam "law.<locals>.<lambda>" rets__law_refusal fin__law_refusal (wFnX spx_holds_at (wCons (wVar 9) (wCons (wVar 4) (wCons (wVar 7) wNil))))) wNil))) wNext)
  (wSeq (wIfS (wNot (wTru (wFn sp__law_is_wide (wCons (wVar 10) (wCons (wVar 2) (wCons (wLst false wNil) (wCons (wC (.bl true)) wNil))))))) (wSeq (wDrop (wMeth oAppend (wVar 3) (wCons (wLam "law.<locals>.<lambda>" rets__law_refusal fin__law_refusal (wFnX spx_where (wCons (wVar 9) (wCons (wVar 10) wNil)))) wNil)))
  (wDrop (wMeth oAppend (wVar 3) (wCons (wLam "law.<locals>.<lambda>" rets__law_refusal fin__law_refusal (wFnX spx_game_of (wCons (wVar 9) (wCons (wVar 10) wNil)))) wNil)))) wNext)
  (wSeq (wIfS (wNot (wTru (wFn sp__law_is_sentence (wCons (wVar 8) wNil)))) (wDrop (wMeth oAppend (wVar 3) (wCons (wLam "law.<locals>.<lambda>" rets__law_refusal fin__law_refusal (wFnX spx_depth_of (wCons (wVar 8) wNil))) wNil))) wNext)
  (wSeq (wDrop (wMeth oAppend (wVar 3) (wCons (wLam "law.<locals>.<lambda>" rets__law_refusal fin__law_refusal (wFnX spx_apart_by (wCons (wTup (wCons (wC (.int 6)) (wCons (wTup wNil) wNil))) (wCons (wTup (wCons (wC (.int 0)) (wCons (wTup wNil) wNil))) (wCons (wC (.int 9)) wNil))))) wNil)))
  (wSeq (wIfS (wB (w2 (oEq true) (wVar 3) (w2 (oMul false) (wLst false (wCons (wC (.str "BadGame")) wNil)) (wCall (c1 oLen) (wCons (wVar 3) wNil))))) (wRet (wC (.bl false))) wNext)
  (wSeq (wSet 3 (wLst true (wCons (wLam "law.<locals>.<lambda>" rets__law_refusal fin__law_refusal (wFnX spx_alike (wCons (wVar 9) (wCons (wVar 4) (wCons (wVar 9) (wCons (wC (.int 0)) wNil)))))) wNil)))
  (wSeq (wDrop (wMeth oAppend (wVar 3) (wCons (wLam "law.<locals>.<lambda>" rets__law_refusal fin__law_refusal (wFnX spx_alike (wCons (wVar 9) (wCons (wC (.int 0)) (wCons (wVar 9) (wCons (wVar 4) wNil)))))) wNil)))
  (wSeq (wDrop (wMeth oAppend (wVar 3) (wCons (wLam "law.<locals>.<lambda>" rets__law_refusal fin__law_refusal (wFnX spx_holds_at (wCons (wVar 9) (wCons (wVar 4) (wCons (wTup (wCons (wC (.str "true")) wNil)) wNil))))) wNil)))
  (wSeq (wIfS (wB (w2 (oEq true) (wVar 3) (w2 (oMul false) (wLst false (wCons (wC (.str "BadPlace")) wNil)) (wC (.int 3))))) (wRet (wC (.bl false))) wNext)
  (wSeq (wSet 5 (wFn sp__law_pick (wCons (wVar 1) (wCons (wLst false (wCons (wC (.int 4)) (wCons (w1 oNeg (wC (.int 1))) (wCons (wC (.int 7)) (wCons (wC .non) wNil))))) wNil))))
  (wRet (w2 (oEq false) (wLam "law.<locals>.<lambda>" rets__law_refusal fin__law_refusal (wFnX spx_apart_by (wCons (wTup (wCons (wC (.int 0)) (wCons (wTup wNil) wNil))) (wCons (wTup (wCons (wC (.int 1)) (wCons (wTup wNil) wNil))) (wCons (wVar 5) wNil))))) (wC (.str "TooMuch")))))))))))))))
def t_lg : XS :=
  (wDrop (wMeth oAppend (wVar 3) (wCons (wLam "law.<locals>.<lambda>" rets__law_refusal fin__law_refusal (wFnX spx_game_of (wCons (wVar 9) (wCons (wVar 10) wNil)))) wNil)))
def t_la : XS :=
  (wSeq (wDrop (wMeth oAppend (wVar 3) (wCons (wLam "law.<locals>.<lambda>" rets__law_refusal fin__law_refusal (wFnX spx_alike (wCons (wVar 6) (wCons (wVar 4) (wCons (wVar 9) (wCons (wC (.int 0)) wNil)))))) wNil)))
  (wSeq (wDrop (wMeth oAppend (wVar 3) (wCons (wLam "law.<locals>.<lambda>" rets__law_refusal fin__law_refusal (wFnX spx_is_likeness (wCons (wVar 9) (wCons (wVar 6) (wCons (wTup wNil) wNil))))) wNil)))
  (wDrop (wMeth oAppend (wVar 3) (wCons (wLam "law.<locals>.<lambda>" rets__law_refusal fin__law_refusal (wFnX spx_where (wCons (wVar 6) (wCons (wTup (wCons (wC (.str "true")) wNil)) wNil)))) wNil)))))
def t_lb : XS :=
  (wSeq (wDrop (wMeth oAppend (wVar 3) (wCons (wLam "law.<locals>.<lambda>" rets__law_refusal fin__law_refusal (wFnX spx_is_likeness (wCons (wVar 9) (wCons (wVar 6) (wCons (wTup wNil) wNil))))) wNil)))
  (wDrop (wMeth oAppend (wVar 3) (wCons (wLam "law.<locals>.<lambda>" rets__law_refusal fin__law_refusal (wFnX spx_where (wCons (wVar 6) (wCons (wTup (wCons (wC (.str "true")) wNil)) wNil)))) wNil))))
def t_lc : XS :=
  (wDrop (wMeth oAppend (wVar 3) (wCons (wLam "law.<locals>.<lambda>" rets__law_refusal fin__law_refusal (wFnX spx_where (wCons (wVar 6) (wCons (wTup (wCons (wC (.str "true")) wNil)) wNil)))) wNil)))
/-! the list of refusals -/
def LB (s : Str) (n : Nat) : List U := List.replicate n (.fz (.str s))
theorem LB_app (s : Str) (n : Nat) : LB s n ++ [.fz (.str s)] = LB s (n + 1) := by unfold LB; rw [List.replicate_succ']
theorem unU_LB (s : Str) : ∀ n : Nat, unU (LB s n) = some (List.replicate n (.str s))
  | 0 => rfl
  | n + 1 => by
    have := unU_LB s n
    unfold LB at this ⊢
    rw [List.replicate_succ, List.replicate_succ]
    unfold unU
    rw [this]
    rfl
theorem toPys_LB (s : Str) : ∀ n : Nat, toPys (List.replicate n (.str s)) = some (List.replicate n (.str s))
  | 0 => by simp only [List.replicate_zero, toPys]
  | n + 1 => by simp only [List.replicate_succ, toPys, toPy, toPys_LB s n]
theorem lay_LB (s : Str) (h : PyData.strOk s = true) : ∀ n : Nat, PyData.canLayAll0 (List.replicate n (.str s)) = true ∧ PyData.depthAll (List.replicate n (.str s)) ≤ 1
  | 0 => by simp [PyData.canLayAll0, PyData.depthAll]
  | n + 1 => by
    obtain ⟨h1, h2⟩ := lay_LB s h n
    simp [List.replicate_succ, PyData.canLayAll0, PyData.depthAll, PyData.canLay0, PyData.depth, h, h1]
    exact h2
theorem flat_LB (d : D) : ∀ n : Nat, (List.replicate n [d]).flatten = List.replicate n d
  | 0 => rfl
  | n + 1 => by rw [List.replicate_succ, List.replicate_succ, List.flatten_cons, flat_LB d n]; rfl
/-- all are refused in the same way -/
theorem ne_LB {ρ : Rho} {μ : Mu} {s : Str} {k n : Nat} {e : XE} (hs : PyData.strOk s = true) (hv : ρ[3]? = some (some (.ptr k))) (hm : μ[k]? = some (.lst (LB s n))) (hn : n ≤ 100) (he : EvE e ρ μ (.fz (.int (n : Int)))) : EvE (w2 (oEq true) (wVar 3) (w2 (oMul false) (wLst false (wCons (wC (.str s)) wNil)) e)) ρ μ (.fz (.bl false)) := by
  refine ev_2 (ev_var hv) (v := .fz (.lst (List.replicate n (.str s)))) (ev_2 (u := .fz (.lst [.str s])) (fun Q q => ⟨small (by show 1 ≤ 10000; omega), q⟩) he fun Q q => ?_) fun Q q => ?_
  · refine ⟨⟨by omega, by omega, ?_⟩, ?_⟩
    · rw [Int.toNat_natCast, sizeLine_eq]
      show 1 * n ≤ _
      omega
    · rw [Int.toNat_natCast, flat_LB]
      exact q
  · have pu : pyU μ (.ptr k) = some (.list (List.replicate n (.str s))) := by
      simp only [pyU, hm]
      rw [unU_LB]
      show (toPys (List.replicate n (D.str s))).map PyData.list = _
      rw [toPys_LB]
      rfl
    obtain ⟨h1, h2⟩ := lay_LB s hs n
    have sh : SeqAt.shaped (.list (List.replicate n (PyData.str s))) = true := by
      unfold SeqAt.shaped
      simp [PyData.canLay0, PyData.depth, h1]
      omega
    refine ⟨_, _, pu, by simp only [pyU, toPy, toPys_LB]; rfl, sh, sh, ?_⟩
    rw [if_pos rfl, SeqAt.eqv_refl _ (SeqAt.canLay_of_shaped sh)]
    exact q
structure Cx19 (near plain sent wide away : D) (S : Sys) : Prop where
  on : Od 7000 20 near
  op : Od 60 20 plain
  os : Od 60 20 sent
  ow : Od 60 20 wide
  oa : Od 7000 20 away
  hS : SysOk S
  ha : belB S.n away = false
section
variable {ns xs : List Int} {near plain sent wide away : D} {S : Sys} {o5 : Option U} {P : Addr} {a b c : Int} {Q : UK} {nx bk ct : Rho → Mu → Prop}
abbrev rhoX (ns : List Int) (near plain sent wide : D) (S : Sys) (o3 o4 o5 : Option U) : Rho := [some (.fz (.slst (ns.map .int))), some (.ptr 1), some (.fz letters5), o3, o4, o5, some (.fz near), some (.fz plain), some (.fz sent), some (.fz (sysD S)), some (.fz wide)]
abbrev muX (P : Addr) (a b c : Int) (xs : List Int) (us : List U) : Mu := [.tab 0 P lamN, boxU a b c xs, .lst us]
theorem s_app {E : XEnds} {e : XE} {ρ : Rho} {s : Str} {n : Nat} (he : EvE e ρ (muX P a b c xs (LB s n)) (.fz (.str s))) (hv : ρ[3]? = some (some (.ptr 2))) (hn : n ≤ 100) (k : E.nx ρ (muX P a b c xs (LB s (n + 1)))) : wDrop (wMeth oAppend (wVar 3) (wCons e wNil)) E ρ (muX P a b c xs (LB s n)) := by
  simp only [wDrop, wMeth]
  refine ev_var hv _ ?_
  refine ⟨rfl, ?_⟩
  refine he _ ?_
  refine ⟨small1 ?_, ?_⟩
  · unfold LB
    rw [List.length_replicate]
    omega
  · rw [LB_app]
    exact k
theorem s_setL {E : XEnds} {e : XE} {ρ : Rho} {μ : Mu} {d : D} {i : Nat} (he : EvE e ρ μ (.fz d)) (k : E.nx (ρ.set i (some (.ptr μ.length))) (μ ++ [.lst [.fz d]])) : wSet i (wLst true (wCons e wNil)) E ρ μ := he _ ⟨small (by show 1 ≤ 10000; omega), k⟩
theorem s_setE {E : XEnds} {e : XE} {ρ : Rho} {μ : Mu} {u : U} {i : Nat} (he : EvE e ρ μ u) (k : E.nx (ρ.set i (some u)) μ) : wSet i e E ρ μ := he _ k
theorem od_tru {L k : Nat} (h : 1 ≤ L) : Od L (k + 2) (.tup [.str "true"]) := od1 h od_w
theorem isF_tru : isF 20 (.tup [.str "true"]) = true := by decide +kernel
theorem od_net {L k n : Nat} (h : 2 ≤ L) : Od L (k + 2) (.tup [natD n, .tup []]) := od2 h (.int _ _) (.tup _ _ (by simp) fun d m => by cases m)
abbrev muY (P : Addr) (a b c : Int) (xs : List Int) (us vs : List U) : Mu := [.tab 0 P lamN, boxU a b c xs, .lst us, .lst vs]
theorem s_appY {E : XEnds} {e : XE} {ρ : Rho} {s : Str} {n : Nat} {us : List U} (he : EvE e ρ (muY P a b c xs us (LB s n)) (.fz (.str s))) (hv : ρ[3]? = some (some (.ptr 3))) (hn : n ≤ 100) (k : E.nx ρ (muY P a b c xs us (LB s (n + 1)))) : wDrop (wMeth oAppend (wVar 3) (wCons e wNil)) E ρ (muY P a b c xs us (LB s n)) := by
  simp only [wDrop, wMeth]
  refine ev_var hv _ ?_
  refine ⟨rfl, ?_⟩
  refine he _ ?_
  refine ⟨small1 ?_, ?_⟩
  · unfold LB
    rw [List.length_replicate]
    omega
  · rw [LB_app]
    exact k
theorem deep_od {d : D} (h : d ∈ ([.int 4, .int (-1), .int 7, .non] : List D)) : Od 7000 20 d ∧ deepB d = false := by
  simp only [List.mem_cons, List.not_mem_nil, or_false] at h
  rcases h with rfl | rfl | rfl | rfl
  · exact ⟨.int _ _, rfl⟩
  · exact ⟨.int _ _, rfl⟩
  · exact ⟨.int _ _, rfl⟩
  · exact ⟨.non _, rfl⟩
theorem r_l6 (X : Cx19 near plain sent wide away S) (h : BoxOk a b c xs) (q : Q (.fz (.bl true)) [.tab 0 P lamN]) {us : List U} :
    t_l6 ⟨nx, back 1 Q, bk, ct⟩ (rhoX ns near plain sent wide S (some (.ptr 2)) (some (.fz away)) none) (muX P a b c xs us) := by
  have hb : ∀ x y : D, belB S.n x = false ∨ belB S.n y = false → (belB S.n x && belB S.n y) = false := fun x y h => by
    rcases h with h | h <;> rw [h] <;> simp
  have oS : Od 7000 20 (sysD S) := od_sysD (k := 16) X.hS (by omega)
  have o0 : Od 7000 20 (.int 0) := .int _ _
  have e1 : ∀ (μ μr : Mu), μ = .tab 0 P lamN :: μr → ∀ o3, EvE (wLam "law.<locals>.<lambda>" rets__law_refusal fin__law_refusal (wFnX spx_alike (wCons (wVar 9) (wCons (wVar 4) (wCons (wVar 9) (wCons (wC (.int 0)) wNil)))))) (rhoX ns near plain sent wide S o3 (some (.fz away)) none) μ (.fz (.str "BadPlace")) := fun μ μr hμ o3 =>
    ev_lam4 (x := "BadPlace") hμ (ev_var rfl) (ev_var rfl) (ev_var rfl) (ev_c _) rfl (fun Q E e => ⟨_, _, _, _, rfl, rfl, oS, X.oa, oS, o0, .inr ⟨S, X.hS, rfl, rfl, hb _ _ (.inl X.ha), e⟩⟩)
  have e2 : ∀ (μ μr : Mu), μ = .tab 0 P lamN :: μr → ∀ o3, EvE (wLam "law.<locals>.<lambda>" rets__law_refusal fin__law_refusal (wFnX spx_alike (wCons (wVar 9) (wCons (wC (.int 0)) (wCons (wVar 9) (wCons (wVar 4) wNil)))))) (rhoX ns near plain sent wide S o3 (some (.fz away)) none) μ (.fz (.str "BadPlace")) := fun μ μr hμ o3 =>
    ev_lam4 (x := "BadPlace") hμ (ev_var rfl) (ev_c _) (ev_var rfl) (ev_var rfl) rfl (fun Q E e => ⟨_, _, _, _, rfl, rfl, oS, o0, oS, X.oa, .inr ⟨S, X.hS, rfl, rfl, hb _ _ (.inr X.ha), e⟩⟩)
  have e3 : ∀ (μ μr : Mu), μ = .tab 0 P lamN :: μr → ∀ o3, EvE (wLam "law.<locals>.<lambda>" rets__law_refusal fin__law_refusal (wFnX spx_holds_at (wCons (wVar 9) (wCons (wVar 4) (wCons (wTup (wCons (wC (.str "true")) wNil)) wNil))))) (rhoX ns near plain sent wide S o3 (some (.fz away)) none) μ (.fz (.str "BadPlace")) := fun μ μr hμ o3 =>
    ev_lam3 (x := "BadPlace") hμ (ev_var rfl) (ev_var rfl) (ev_tup1 (ev_c _)) rfl (fun Q E e => ⟨S, _, _, rfl, rfl, X.hS, X.oa, od_tru (k := 18) (by omega), .inr ⟨isF_tru, X.ha, e⟩⟩)
  refine s_setL (e1 _ _ rfl _) ?_
  refine s_appY (s := "BadPlace") (n := 1) (us := us) (e2 _ _ rfl (some (.ptr 3))) rfl (by omega) ?_
  refine s_appY (s := "BadPlace") (n := 2) (us := us) (e3 _ _ rfl (some (.ptr 3))) rfl (by omega) ?_
  refine s_seqIf (ev_B (ne_LB (ρ := rhoX ns near plain sent wide S (some (.ptr 3)) (some (.fz away)) none) (μ := muY P a b c xs us (LB "BadPlace" 3)) (s := "BadPlace") (k := 3) (n := 3) (by decide +kernel) rfl rfl (by omega) (ev_c _))) (fun z => by cases z) (fun _ => ?_)
  walk_at "ev"
  refine ⟨small (by show 4 ≤ 10000; omega), ?_⟩
  walk_at "ev"
  refine ⟨⟨nd1', rfl⟩, a, b, c, xs, [.int 4, .int (-1), .int 7, .non], rfl, rfl, h, by simp, by simp, fun w a b c hw h => ⟨⟨Nat.le_refl _, rfl⟩, ?_⟩⟩
  obtain ⟨od, hd⟩ := deep_od hw
  have e4 : EvE (wLam "law.<locals>.<lambda>" rets__law_refusal fin__law_refusal (wFnX spx_apart_by (wCons (wTup (wCons (wC (.int 0)) (wCons (wTup wNil) wNil))) (wCons (wTup (wCons (wC (.int 1)) (wCons (wTup wNil) wNil))) (wCons (wVar 5) wNil))))) (rhoX ns near plain sent wide S (some (.ptr 3)) (some (.fz away)) (some (.fz w))) (muY P a b c xs us (LB "BadPlace" 3)) (.fz (.str "TooMuch")) :=
    ev_lam3 (x := "TooMuch") rfl (ev_tup2 (ev_c _) ev_tup0) (ev_tup2 (ev_c _) ev_tup0) (ev_var rfl) rfl (fun Q E e => ⟨0, 1, w, rfl, rfl, od, .inr ⟨by omega, by omega, hd, e⟩⟩)
  exact s_ret (ev_eqS e4 (ev_c _)) ⟨rfl, q⟩
theorem r_l5 (X : Cx19 near plain sent wide away S) (h : BoxOk a b c xs) (q : Q (.fz (.bl true)) [.tab 0 P lamN]) (n : Nat) (hn : n ≤ 90) :
    t_l5 ⟨nx, back 1 Q, bk, ct⟩ (rhoX ns near plain sent wide S (some (.ptr 2)) (some (.fz away)) none) (muX P a b c xs (LB "BadGame" n)) := by
  refine s_seqIf (ev_B (ne_LB (s := "BadGame") (k := 2) (n := n) (by decide +kernel) rfl rfl (by omega) fun Q q => ?_)) (fun z => by cases z) (fun _ => r_l6 X h q)
  have e : (LB "BadGame" n).length = n := by unfold LB; rw [List.length_replicate]
  show Q (.fz (.int ((LB "BadGame" n).length : Int))) _
  rw [e]
  exact q
theorem r_l4d (X : Cx19 near plain sent wide away S) (h : BoxOk a b c xs) (q : Q (.fz (.bl true)) [.tab 0 P lamN]) (n : Nat) (hn : n ≤ 80) :
    t_l4d ⟨nx, back 1 Q, bk, ct⟩ (rhoX ns near plain sent wide S (some (.ptr 2)) (some (.fz away)) none) (muX P a b c xs (LB "BadGame" n)) := by
  unfold t_l4d
  refine s_app (s := "BadGame") (n := n) (ev_lam3 (x := "BadGame") rfl (ev_tup2 (ev_c _) ev_tup0) (ev_tup2 (ev_c _) ev_tup0) (ev_c _) rfl (fun Q E e => ⟨6, 0, .int 9, rfl, rfl, .int _ _, .inl ⟨by omega, e⟩⟩)) rfl (by omega) ?_
  exact r_l5 X h q (n + 1) (by omega)
theorem r_l4c (X : Cx19 near plain sent wide away S) (h : BoxOk a b c xs) (q : Q (.fz (.bl true)) [.tab 0 P lamN]) (n : Nat) (hn : n ≤ 70) :
    t_l4c ⟨nx, back 1 Q, bk, ct⟩ (rhoX ns near plain sent wide S (some (.ptr 2)) (some (.fz away)) none) (muX P a b c xs (LB "BadGame" n)) := by
  unfold t_l4c
  refine s_seqIf (ev_not (ev_tru (ev_fn1 (ev_var rfl) fun Q q => ⟨sent, rfl, rfl, X.os, by omega, q⟩))) (fun z => ?_) (fun _ => r_l4d X h q n (by omega))
  refine s_app (s := "BadGame") (n := n) (ev_lam1 (x := "BadGame") rfl (ev_var rfl) rfl (fun Q E e => ⟨sent, rfl, rfl, X.os, by simpa using z, e⟩)) rfl (by omega) ?_
  exact r_l4d X h q (n + 1) (by omega)
theorem r_l4b (X : Cx19 near plain sent wide away S) (h : BoxOk a b c xs) (q : Q (.fz (.bl true)) [.tab 0 P lamN]) (n : Nat) (hn : n ≤ 60) :
    t_l4b ⟨nx, back 1 Q, bk, ct⟩ (rhoX ns near plain sent wide S (some (.ptr 2)) (some (.fz away)) none) (muX P a b c xs (LB "BadGame" n)) := by
  unfold t_l4b
  have oS : Od 7000 20 (sysD S) := od_sysD (k := 16) X.hS (by omega)
  refine s_seqIf (b := !isW 20 wide []) (ev_not (ev_tru (ev_fn4 (d3 := .lst []) (ev_var rfl) (ev_var rfl) ev_nilL (ev_c _) fun Q q => ⟨wide, [], true, rfl, rfl, X.ow, by omega, by simp, (fun p m => by cases m), by simp, q⟩))) (fun z => ?_) (fun _ => r_l4c X h q n (by omega))
  have hz : (sysB (sysD S) && isW 20 wide []) = false := by
    have : isW 20 wide [] = false := by simpa using z
    rw [this, Bool.and_false]
  refine s_app (s := "BadGame") (n := n) (ev_lam2 (x := "BadGame") rfl (ev_var rfl) (ev_var rfl) rfl (fun Q E e => ⟨_, wide, rfl, rfl, oS, X.ow, hz, e⟩)) rfl (by omega) ?_
  show t_lg ⟨t_l4c ⟨nx, back 1 Q, bk, ct⟩, _, _, _⟩ (rhoX ns near plain sent wide S (some (.ptr 2)) (some (.fz away)) none) (muX P a b c xs (LB "BadGame" (n + 1)))
  unfold t_lg
  refine s_app (s := "BadGame") (n := n + 1) (ev_lam2 (x := "BadGame") rfl (ev_var rfl) (ev_var rfl) rfl (fun Q E e => ⟨_, wide, rfl, rfl, oS, X.ow, hz, e⟩)) rfl (by omega) ?_
  exact r_l4c X h q (n + 2) (by omega)
theorem r_l4 (X : Cx19 near plain sent wide away S) (h : BoxOk a b c xs) (q : Q (.fz (.bl true)) [.tab 0 P lamN]) (n : Nat) (hn : n ≤ 50) :
    t_l4 ⟨nx, back 1 Q, bk, ct⟩ (rhoX ns near plain sent wide S (some (.ptr 2)) (some (.fz away)) none) (muX P a b c xs (LB "BadGame" n)) := by
  unfold t_l4
  refine s_seqIf (ev_not (ev_tru (ev_fn2 (ev_var rfl) (ev_var rfl) fun Q q => ⟨plain, rfl, rfl, X.op, by omega, q⟩))) (fun z => ?_) (fun _ => r_l4b X h q n (by omega))
  refine s_app (s := "BadGame") (n := n) (ev_lam3 (x := "BadGame") rfl (ev_var rfl) (ev_var rfl) (ev_var rfl) rfl (fun Q E e => ⟨S, away, plain, rfl, rfl, X.hS, X.oa, X.op, .inl ⟨by simpa using z, e⟩⟩)) rfl (by omega) ?_
  exact r_l4b X h q (n + 1) (by omega)
theorem r_l3 (X : Cx19 near plain sent wide away S) (h : BoxOk a b c xs) (q : Q (.fz (.bl true)) [.tab 0 P lamN]) :
    t_l3 ⟨nx, back 1 Q, bk, ct⟩ (rhoX ns near plain sent wide S none (some (.fz away)) none) [.tab 0 P lamN, boxU a b c xs] := by
  have oS : Od 7000 20 (sysD S) := od_sysD (k := 16) X.hS (by omega)
  have hS := sys_sysB X.hS
  walk_at "ev"
  refine ⟨small (by show 0 ≤ 10000; omega), ?_⟩
  show t_l3b ⟨nx, back 1 Q, bk, ct⟩ (rhoX ns near plain sent wide S (some (.ptr 2)) (some (.fz away)) none) (muX P a b c xs (LB "BadGame" 0))
  unfold t_l3b
  refine s_seqIf (ev_not (ev_tru (ev_fn1 (ev_var rfl) fun Q q => ⟨near, rfl, rfl, X.on, q⟩))) (fun z => ?_) (fun _ => r_l4 X h q 0 (by omega))
  have z : sysB near = false := by simpa using z
  refine s_app (s := "BadGame") (n := 0) (ev_lam1 (x := "BadGame") rfl (ev_var rfl) rfl (fun Q E e => ⟨near, rfl, rfl, X.on, z, e⟩)) rfl (by omega) ?_
  show t_la ⟨t_l4 ⟨nx, back 1 Q, bk, ct⟩, _, _, _⟩ (rhoX ns near plain sent wide S (some (.ptr 2)) (some (.fz away)) none) (muX P a b c xs (LB "BadGame" 1))
  unfold t_la
  refine s_app (s := "BadGame") (n := 1) (ev_lam4 (x := "BadGame") rfl (ev_var rfl) (ev_var rfl) (ev_var rfl) (ev_c _) rfl (fun Q E e => ⟨_, _, _, _, rfl, rfl, X.on, X.oa, oS, .int _ _, .inl ⟨z, e⟩⟩)) rfl (by omega) ?_
  show t_lb ⟨t_l4 ⟨nx, back 1 Q, bk, ct⟩, _, _, _⟩ (rhoX ns near plain sent wide S (some (.ptr 2)) (some (.fz away)) none) (muX P a b c xs (LB "BadGame" 2))
  unfold t_lb
  refine s_app (s := "BadGame") (n := 2) (ev_lam3 (x := "BadGame") rfl (ev_var rfl) (ev_var rfl) ev_tup0 rfl (fun Q E e => ⟨_, near, _, rfl, rfl, oS, X.on, hS, z, e⟩)) rfl (by omega) ?_
  show t_lc ⟨t_l4 ⟨nx, back 1 Q, bk, ct⟩, _, _, _⟩ (rhoX ns near plain sent wide S (some (.ptr 2)) (some (.fz away)) none) (muX P a b c xs (LB "BadGame" 3))
  unfold t_lc
  refine s_app (s := "BadGame") (n := 3) (ev_lam2 (x := "BadGame") rfl (ev_var rfl) (ev_tup1 (ev_c _)) rfl (fun Q E e => ⟨near, _, rfl, rfl, X.on, od_tru (k := 18) (by omega), by rw [z]; rfl, e⟩)) rfl (by omega) ?_
  exact r_l4 X h q 4 (by omega)
end
theorem away_od {n : Nat} {d : D} (h : d ∈ ([natD n, .int (-1), .non, .bl true, .str "a"] : List D)) : Od 7000 20 d ∧ belB n d = false := by
  simp only [List.mem_cons, List.not_mem_nil, or_false] at h
  rcases h with rfl | rfl | rfl | rfl | rfl
  · refine ⟨.int _ _, ?_⟩
    show (decide ((0 : Int) ≤ (n : Int)) && decide ((n : Int) < (n : Int))) = false
    rw [decide_eq_false (Int.lt_irrefl _), Bool.and_false]
  · exact ⟨.int _ _, rfl⟩
  · exact ⟨.non _, rfl⟩
  · exact ⟨.bl _ _, rfl⟩
  · exact ⟨od_w, rfl⟩
theorem r_law : Rd sp_law N_law t_law := by
  rintro us μ Q ⟨ns, P, rfl, rfl, hns, q⟩
  walk_at "ev"
  refine ⟨⟨List.nodup_nil, rfl⟩, ns, rfl, rfl, hns, fun xs h => ⟨⟨Nat.zero_le _, rfl⟩, ?_⟩⟩
  walk_at "ev"
  refine ⟨small (by show 5 ≤ 10000; omega), ?_⟩
  walk_at "ev"
  refine ⟨small (by show 2 ≤ 10000; omega), ?_⟩
  walk_at "ev"
  refine ⟨⟨nd1', rfl⟩, 0, 0, 0, xs, 4, rfl, rfl, h, by omega, by omega, fun S a b c hS hn h => ⟨⟨Nat.le_refl _, rfl⟩, ?_⟩⟩
  have oS : Od 6000 4 (sysD S) := od_sysD (k := 0) hS (by omega)
  walk_at "ev"
  refine ⟨⟨nd1', rfl⟩, a, b, c, xs, sysD S, 3, 6000, 4, rfl, rfl, h, by omega, oS, by omega, by omega, by omega, fun near a b c on h => ⟨⟨Nat.le_refl _, rfl⟩, ?_⟩⟩
  walk_at "ev"
  refine ⟨small (by show 0 ≤ 10000; omega), ?_⟩
  walk_at "ev"
  refine ⟨⟨nd1', rfl⟩, a, b, c, xs, 4, [], true, false, rfl, rfl, h, by omega, by simp, fun f a b c of h => ⟨⟨Nat.le_refl _, rfl⟩, ?_⟩⟩
  walk_at "ev"
  refine ⟨⟨nd1', rfl⟩, a, b, c, xs, f, 4, 50, 10, rfl, rfl, h, by omega, of, by omega, by omega, by omega, fun plain a b c op h => ⟨⟨Nat.le_refl _, rfl⟩, ?_⟩⟩
  walk_at "ev"
  refine ⟨small (by show 0 ≤ 10000; omega), ?_⟩
  walk_at "ev"
  refine ⟨⟨nd1', rfl⟩, a, b, c, xs, 5, [], true, true, rfl, rfl, h, by omega, by simp, fun f a b c of h => ⟨⟨Nat.le_refl _, rfl⟩, ?_⟩⟩
  walk_at "ev"
  refine ⟨⟨nd1', rfl⟩, a, b, c, xs, f, 5, 50, 12, rfl, rfl, h, by omega, of, by omega, by omega, by omega, fun wide a b c ow h => ⟨⟨Nat.le_refl _, rfl⟩, ?_⟩⟩
  walk_at "ev"
  refine ⟨⟨nd1', rfl⟩, a, b, c, xs, 4, 1, rfl, rfl, h, by omega, by omega, fun f a b c of h => ⟨⟨Nat.le_refl _, rfl⟩, ?_⟩⟩
  walk_at "ev"
  refine ⟨⟨nd1', rfl⟩, a, b, c, xs, f, 4, 50, 10, rfl, rfl, h, by omega, of, by omega, by omega, by omega, fun sent a b c os h => ⟨⟨Nat.le_refl _, rfl⟩, ?_⟩⟩
  have on : Od 7000 20 near := on.mono (by omega) (by omega)
  have op : Od 60 20 plain := op.mono (by omega) (by omega)
  have ow : Od 60 20 wide := ow.mono (by omega) (by omega)
  have os : Od 60 20 sent := os.mono (by omega) (by omega)
  show t_l1 _ (rhoX ns near plain sent wide S none none none) [.tab 0 P lamN, boxU a b c xs]
  unfold t_l1
  have says : ∀ {x : Bool} {e f : XE}, EvE e (rhoX ns near plain sent wide S none none none) [.tab 0 P lamN, boxU a b c xs] (.fz (.bl x)) → EvE f (rhoX ns near plain sent wide S none none none) [.tab 0 P lamN, boxU a b c xs] (.fz (.bl x)) → Ev (wNot (wTru (wFn sp__law_says (wCons e (wCons f wNil))))) (rhoX ns near plain sent wide S none none none) [.tab 0 P lamN, boxU a b c xs] false := fun {x e f} he hf =>
    (ev_not (ev_tru (b := decide (x = x)) (ev_fn2 he hf fun Q q => ⟨x, x, rfl, rfl, q⟩))).at (by rw [decide_eq_true rfl]; rfl)
  refine s_seqIf (says (x := sysB near) (ev_fn1 (ev_var rfl) fun Q q => ⟨near, rfl, rfl, on, q⟩) (ev_fn1 (ev_var rfl) fun Q q => ⟨near, rfl, rfl, on, q⟩)) (fun z => by cases z) (fun _ => ?_)
  refine s_seqIf (says (x := isF 20 plain) (ev_fn1 (ev_var rfl) fun Q q => ⟨plain, rfl, rfl, op, q⟩) (ev_fn2 (ev_var rfl) (ev_var rfl) fun Q q => ⟨plain, rfl, rfl, op, by omega, q⟩)) (fun z => by cases z) (fun _ => ?_)
  refine s_seqIf (says (x := isW 20 wide []) (ev_fn1 (ev_var rfl) fun Q q => ⟨wide, rfl, rfl, ow, q⟩) (ev_fn4 (d3 := .lst []) (ev_var rfl) (ev_var rfl) ev_nilL (ev_c _) fun Q q => ⟨wide, [], true, rfl, rfl, ow, by omega, by simp, (fun p m => by cases m), by simp, q⟩)) (fun z => by cases z) (fun _ => ?_)
  refine s_seqIf (says (x := isS 20 sent) (ev_fn1 (ev_var rfl) fun Q q => ⟨sent, rfl, rfl, os, by omega, q⟩) (ev_fn1 (ev_var rfl) fun Q q => ⟨sent, rfl, rfl, os, by omega, q⟩)) (fun z => by cases z) (fun _ => ?_)
  walk_at "ev"
  refine ⟨_, rfl, ?_⟩
  walk_at "ev"
  refine ⟨small (by show 5 ≤ 10000; omega), ?_⟩
  walk_at "ev"
  refine ⟨⟨nd1', rfl⟩, a, b, c, xs, [natD S.n, .int (-1), .non, .bl true, .str "a"], rfl, rfl, h, by simp, by simp, fun away a b c hw h => ⟨⟨Nat.le_refl _, rfl⟩, ?_⟩⟩
  obtain ⟨oa, ha⟩ := away_od hw
  exact r_l3 ⟨on, op, os, ow, oa, hS, ha⟩ h q
end K19
namespace K19
open PySem PySem.Spec PyProof.Rows L2 W3 CB MS M19
section
variable {P : Program} {w : World} {K : PySem.W.Frag} {mg : Str → Option Value} {base : Heap}
theorem okN_is_sentence {f : Addr} {fd : FuncData} (B : Blt mg bltNames) (D_is_whole : DefOk P w K mg base 1 "is_whole" ["x"] sp_is_whole) (F : Fun K "is_sentence" "is_sentence" s_is_sentence f fd) (hm : mg "is_sentence" = some (.ref f)) (hk : PySem.W.keepIn K (.ref f) = true) (hb : Binds K fd ["x"] []) :
    ∀ n : Nat, FnOk P w K mg base CX0 (1 + n) f fd ["x"] (liftSp K (spIS n))
  | 0 => by
    have no : ∀ us μ Q, ¬ spIS 0 us μ Q := fun us μ Q h => by
      unfold spIS at h
      (repeat (obtain ⟨_, h⟩ := h))
      first | omega | exact absurd ‹Od _ 0 _› (fun z => by cases z)
    exact ⟨fun vs H Q E ⟨us, μ, _, _, _, _, _, h, _⟩ => absurd h (no us μ _), fun A outer s H args us vs Q E _ _ _ _ ⟨us', μ, _, _, _, _, _, h, _⟩ => absurd h (no us' μ _)⟩
  | n + 1 => fnD F sc_is_sentence (fun us μ Q h => by unfold spIS at h; (repeat (obtain ⟨_, h⟩ := h)); subst_vars; rfl)
      (fun cdv A outer s H E hr => q_is_sentence (kr := 1 + n) (Nat.le_add_right _ _) B D_is_whole ⟨⟨f, fd, okN_is_sentence B D_is_whole F hm hk hb n, hm, hk, hb⟩⟩ hr) (r_iss n)
theorem ok_is_sentence {f : Addr} {fd : FuncData} (B : Blt mg bltNames) (D_is_whole : DefOk P w K mg base 1 "is_whole" ["x"] sp_is_whole) (F : Fun K "is_sentence" "is_sentence" s_is_sentence f fd) (hm : mg "is_sentence" = some (.ref f)) (hk : PySem.W.keepIn K (.ref f) = true) (hb : Binds K fd ["x"] []) :
    DefOk P w K mg base 26 "is_sentence" ["x"] sp_is_sentence := ⟨⟨f, fd, (okN_is_sentence B D_is_whole F hm hk hb 20).mono (by decide), hm, hk, hb⟩⟩
theorem okN__law_is_formula {f : Addr} {fd : FuncData} (B : Blt mg bltNames)  (F : Fun K "_law_is_formula" "_law_is_formula" s__law_is_formula f fd) (hm : mg "_law_is_formula" = some (.ref f)) (hk : PySem.W.keepIn K (.ref f) = true) (hb : Binds K fd ["x", "letters"] []) :
    ∀ n : Nat, FnOk P w K mg base CX0 (0 + n) f fd ["x", "letters"] (liftSp K (spLF n))
  | 0 => by
    have no : ∀ us μ Q, ¬ spLF 0 us μ Q := fun us μ Q h => by
      unfold spLF at h
      (repeat (obtain ⟨_, h⟩ := h))
      first | omega | exact absurd ‹Od _ 0 _› (fun z => by cases z)
    exact ⟨fun vs H Q E ⟨us, μ, _, _, _, _, _, h, _⟩ => absurd h (no us μ _), fun A outer s H args us vs Q E _ _ _ _ ⟨us', μ, _, _, _, _, _, h, _⟩ => absurd h (no us' μ _)⟩
  | n + 1 => fnD F sc__law_is_formula (fun us μ Q h => by unfold spLF at h; (repeat (obtain ⟨_, h⟩ := h)); subst_vars; rfl)
      (fun cdv A outer s H E hr => q__law_is_formula (kr := 0 + n) (Nat.le_add_right _ _) B ⟨⟨f, fd, okN__law_is_formula B  F hm hk hb n, hm, hk, hb⟩⟩ hr) (r_lf n)
theorem ok__law_is_formula {f : Addr} {fd : FuncData} (B : Blt mg bltNames)  (F : Fun K "_law_is_formula" "_law_is_formula" s__law_is_formula f fd) (hm : mg "_law_is_formula" = some (.ref f)) (hk : PySem.W.keepIn K (.ref f) = true) (hb : Binds K fd ["x", "letters"] []) :
    DefOk P w K mg base 26 "_law_is_formula" ["x", "letters"] sp__law_is_formula := ⟨⟨f, fd, (okN__law_is_formula B  F hm hk hb 20).mono (by decide), hm, hk, hb⟩⟩
theorem okN__law_is_wide {f : Addr} {fd : FuncData} (B : Blt mg bltNames) (D__law_whole : DefOk P w K mg base 1 "_law_whole" ["x"] sp__law_whole) (F : Fun K "_law_is_wide" "_law_is_wide" s__law_is_wide f fd) (hm : mg "_law_is_wide" = some (.ref f)) (hk : PySem.W.keepIn K (.ref f) = true) (hb : Binds K fd ["x", "letters", "bound", "straight"] []) :
    ∀ n : Nat, FnOk P w K mg base CX0 (1 + n) f fd ["x", "letters", "bound", "straight"] (liftSp K (spLW n))
  | 0 => by
    have no : ∀ us μ Q, ¬ spLW 0 us μ Q := fun us μ Q h => by
      unfold spLW at h
      (repeat (obtain ⟨_, h⟩ := h))
      first | omega | exact absurd ‹Od _ 0 _› (fun z => by cases z)
    exact ⟨fun vs H Q E ⟨us, μ, _, _, _, _, _, h, _⟩ => absurd h (no us μ _), fun A outer s H args us vs Q E _ _ _ _ ⟨us', μ, _, _, _, _, _, h, _⟩ => absurd h (no us' μ _)⟩
  | n + 1 => fnD F sc__law_is_wide (fun us μ Q h => by unfold spLW at h; (repeat (obtain ⟨_, h⟩ := h)); subst_vars; rfl)
      (fun cdv A outer s H E hr => q__law_is_wide (kr := 1 + n) (Nat.le_add_right _ _) B ⟨⟨f, fd, okN__law_is_wide B D__law_whole F hm hk hb n, hm, hk, hb⟩⟩ D__law_whole hr) (r_lw n)
theorem ok__law_is_wide {f : Addr} {fd : FuncData} (B : Blt mg bltNames) (D__law_whole : DefOk P w K mg base 1 "_law_whole" ["x"] sp__law_whole) (F : Fun K "_law_is_wide" "_law_is_wide" s__law_is_wide f fd) (hm : mg "_law_is_wide" = some (.ref f)) (hk : PySem.W.keepIn K (.ref f) = true) (hb : Binds K fd ["x", "letters", "bound", "straight"] []) :
    DefOk P w K mg base 26 "_law_is_wide" ["x", "letters", "bound", "straight"] sp__law_is_wide := ⟨⟨f, fd, (okN__law_is_wide B D__law_whole F hm hk hb 20).mono (by decide), hm, hk, hb⟩⟩
theorem okN__law_is_sentence {f : Addr} {fd : FuncData} (B : Blt mg bltNames) (D__law_whole : DefOk P w K mg base 1 "_law_whole" ["x"] sp__law_whole) (F : Fun K "_law_is_sentence" "_law_is_sentence" s__law_is_sentence f fd) (hm : mg "_law_is_sentence" = some (.ref f)) (hk : PySem.W.keepIn K (.ref f) = true) (hb : Binds K fd ["x"] []) :
    ∀ n : Nat, FnOk P w K mg base CX0 (1 + n) f fd ["x"] (liftSp K (spLS n))
  | 0 => by
    have no : ∀ us μ Q, ¬ spLS 0 us μ Q := fun us μ Q h => by
      unfold spLS at h
      (repeat (obtain ⟨_, h⟩ := h))
      first | omega | exact absurd ‹Od _ 0 _› (fun z => by cases z)
    exact ⟨fun vs H Q E ⟨us, μ, _, _, _, _, _, h, _⟩ => absurd h (no us μ _), fun A outer s H args us vs Q E _ _ _ _ ⟨us', μ, _, _, _, _, _, h, _⟩ => absurd h (no us' μ _)⟩
  | n + 1 => fnD F sc__law_is_sentence (fun us μ Q h => by unfold spLS at h; (repeat (obtain ⟨_, h⟩ := h)); subst_vars; rfl)
      (fun cdv A outer s H E hr => q__law_is_sentence (kr := 1 + n) (Nat.le_add_right _ _) B D__law_whole ⟨⟨f, fd, okN__law_is_sentence B D__law_whole F hm hk hb n, hm, hk, hb⟩⟩ hr) (r_ls n)
theorem ok__law_is_sentence {f : Addr} {fd : FuncData} (B : Blt mg bltNames) (D__law_whole : DefOk P w K mg base 1 "_law_whole" ["x"] sp__law_whole) (F : Fun K "_law_is_sentence" "_law_is_sentence" s__law_is_sentence f fd) (hm : mg "_law_is_sentence" = some (.ref f)) (hk : PySem.W.keepIn K (.ref f) = true) (hb : Binds K fd ["x"] []) :
    DefOk P w K mg base 26 "_law_is_sentence" ["x"] sp__law_is_sentence := ⟨⟨f, fd, (okN__law_is_sentence B D__law_whole F hm hk hb 20).mono (by decide), hm, hk, hb⟩⟩
theorem okN__law_formula {f : Addr} {fd : FuncData} (B : Blt mg bltNames) (D__law_take : DefOk P w K mg base 1 "_law_take" ["box", "m"] sp__law_take) (D__law_pick : DefOk P w K mg base 2 "_law_pick" ["box", "menu"] sp__law_pick) (F : Fun K "_law_formula" "_law_formula" s__law_formula f fd) (hm : mg "_law_formula" = some (.ref f)) (hk : PySem.W.keepIn K (.ref f) = true) (hb : Binds K fd ["box", "deep", "letters", "names", "straight", "rounds"] []) :
    ∀ n : Nat, FnOk P w K mg base CX0 (2 + n) f fd ["box", "deep", "letters", "names", "straight", "rounds"] (liftSp K (spForm n))
  | 0 => by
    have no : ∀ us μ Q, ¬ spForm 0 us μ Q := fun us μ Q h => by
      unfold spForm at h
      (repeat (obtain ⟨_, h⟩ := h))
      first | omega | exact absurd ‹Od _ 0 _› (fun z => by cases z)
    exact ⟨fun vs H Q E ⟨us, μ, _, _, _, _, _, h, _⟩ => absurd h (no us μ _), fun A outer s H args us vs Q E _ _ _ _ ⟨us', μ, _, _, _, _, _, h, _⟩ => absurd h (no us' μ _)⟩
  | n + 1 => fnD F sc__law_formula (fun us μ Q h => by unfold spForm at h; (repeat (obtain ⟨_, h⟩ := h)); subst_vars; rfl)
      (fun cdv A outer s H E hr => q__law_formula (kr := 2 + n) (Nat.le_add_right _ _) B D__law_take D__law_pick ⟨⟨f, fd, okN__law_formula B D__law_take D__law_pick F hm hk hb n, hm, hk, hb⟩⟩ hr) (r_form n)
theorem ok__law_formula {f : Addr} {fd : FuncData} (B : Blt mg bltNames) (D__law_take : DefOk P w K mg base 1 "_law_take" ["box", "m"] sp__law_take) (D__law_pick : DefOk P w K mg base 2 "_law_pick" ["box", "menu"] sp__law_pick) (F : Fun K "_law_formula" "_law_formula" s__law_formula f fd) (hm : mg "_law_formula" = some (.ref f)) (hk : PySem.W.keepIn K (.ref f) = true) (hb : Binds K fd ["box", "deep", "letters", "names", "straight", "rounds"] []) :
    DefOk P w K mg base 26 "_law_formula" ["box", "deep", "letters", "names", "straight", "rounds"] sp__law_formula := ⟨⟨f, fd, (okN__law_formula B D__law_take D__law_pick F hm hk hb 7).mono (by decide), hm, hk, hb⟩⟩
theorem okN__law_sentence {f : Addr} {fd : FuncData} (B : Blt mg bltNames) (D__law_take : DefOk P w K mg base 1 "_law_take" ["box", "m"] sp__law_take) (D__law_pick : DefOk P w K mg base 2 "_law_pick" ["box", "menu"] sp__law_pick) (F : Fun K "_law_sentence" "_law_sentence" s__law_sentence f fd) (hm : mg "_law_sentence" = some (.ref f)) (hk : PySem.W.keepIn K (.ref f) = true) (hb : Binds K fd ["box", "deep", "many"] []) :
    ∀ n : Nat, FnOk P w K mg base CX0 (2 + n) f fd ["box", "deep", "many"] (liftSp K (spSen n))
  | 0 => by
    have no : ∀ us μ Q, ¬ spSen 0 us μ Q := fun us μ Q h => by
      unfold spSen at h
      (repeat (obtain ⟨_, h⟩ := h))
      first | omega | exact absurd ‹Od _ 0 _› (fun z => by cases z)
    exact ⟨fun vs H Q E ⟨us, μ, _, _, _, _, _, h, _⟩ => absurd h (no us μ _), fun A outer s H args us vs Q E _ _ _ _ ⟨us', μ, _, _, _, _, _, h, _⟩ => absurd h (no us' μ _)⟩
  | n + 1 => fnD F sc__law_sentence (fun us μ Q h => by unfold spSen at h; (repeat (obtain ⟨_, h⟩ := h)); subst_vars; rfl)
      (fun cdv A outer s H E hr => q__law_sentence (kr := 2 + n) (Nat.le_add_right _ _) B D__law_take D__law_pick ⟨⟨f, fd, okN__law_sentence B D__law_take D__law_pick F hm hk hb n, hm, hk, hb⟩⟩ hr) (r_sen n)
theorem ok__law_sentence {f : Addr} {fd : FuncData} (B : Blt mg bltNames) (D__law_take : DefOk P w K mg base 1 "_law_take" ["box", "m"] sp__law_take) (D__law_pick : DefOk P w K mg base 2 "_law_pick" ["box", "menu"] sp__law_pick) (F : Fun K "_law_sentence" "_law_sentence" s__law_sentence f fd) (hm : mg "_law_sentence" = some (.ref f)) (hk : PySem.W.keepIn K (.ref f) = true) (hb : Binds K fd ["box", "deep", "many"] []) :
    DefOk P w K mg base 26 "_law_sentence" ["box", "deep", "many"] sp__law_sentence := ⟨⟨f, fd, (okN__law_sentence B D__law_take D__law_pick F hm hk hb 6).mono (by decide), hm, hk, hb⟩⟩
theorem okN__law_odd {f : Addr} {fd : FuncData} (B : Blt mg bltNames) (D__law_take : DefOk P w K mg base 1 "_law_take" ["box", "m"] sp__law_take) (D__law_pick : DefOk P w K mg base 2 "_law_pick" ["box", "menu"] sp__law_pick) (F : Fun K "_law_odd" "_law_odd" s__law_odd f fd) (hm : mg "_law_odd" = some (.ref f)) (hk : PySem.W.keepIn K (.ref f) = true) (hb : Binds K fd ["box", "depth_v"] []) :
    ∀ n : Nat, FnOk P w K mg base CX0 (2 + n) f fd ["box", "depth_v"] (liftSp K (spOdd n))
  | 0 => by
    have no : ∀ us μ Q, ¬ spOdd 0 us μ Q := fun us μ Q h => by
      unfold spOdd at h
      (repeat (obtain ⟨_, h⟩ := h))
      first | omega | exact absurd ‹Od _ 0 _› (fun z => by cases z)
    exact ⟨fun vs H Q E ⟨us, μ, _, _, _, _, _, h, _⟩ => absurd h (no us μ _), fun A outer s H args us vs Q E _ _ _ _ ⟨us', μ, _, _, _, _, _, h, _⟩ => absurd h (no us' μ _)⟩
  | n + 1 => fnD F sc__law_odd (fun us μ Q h => by unfold spOdd at h; (repeat (obtain ⟨_, h⟩ := h)); subst_vars; rfl)
      (fun cdv A outer s H E hr => q__law_odd (kr := 2 + n) (Nat.le_add_right _ _) B D__law_take D__law_pick ⟨⟨f, fd, okN__law_odd B D__law_take D__law_pick F hm hk hb n, hm, hk, hb⟩⟩ hr) (r_odd n)
theorem ok__law_odd {f : Addr} {fd : FuncData} (B : Blt mg bltNames) (D__law_take : DefOk P w K mg base 1 "_law_take" ["box", "m"] sp__law_take) (D__law_pick : DefOk P w K mg base 2 "_law_pick" ["box", "menu"] sp__law_pick) (F : Fun K "_law_odd" "_law_odd" s__law_odd f fd) (hm : mg "_law_odd" = some (.ref f)) (hk : PySem.W.keepIn K (.ref f) = true) (hb : Binds K fd ["box", "depth_v"] []) :
    DefOk P w K mg base 26 "_law_odd" ["box", "depth_v"] sp__law_odd := ⟨⟨f, fd, (okN__law_odd B D__law_take D__law_pick F hm hk hb 4).mono (by decide), hm, hk, hb⟩⟩
theorem okN__law_turned {f : Addr} {fd : FuncData} (B : Blt mg bltNames) (D__law_take : DefOk P w K mg base 1 "_law_take" ["box", "m"] sp__law_take) (D__law_odd : DefOk P w K mg base 26 "_law_odd" ["box", "depth_v"] sp__law_odd) (F : Fun K "_law_turned" "_law_turned" s__law_turned f fd) (hm : mg "_law_turned" = some (.ref f)) (hk : PySem.W.keepIn K (.ref f) = true) (hb : Binds K fd ["box", "told", "depth_v"] []) :
    ∀ n : Nat, FnOk P w K mg base CX0 (26 + n) f fd ["box", "told", "depth_v"] (liftSp K (spTurn n))
  | 0 => by
    have no : ∀ us μ Q, ¬ spTurn 0 us μ Q := fun us μ Q h => by
      unfold spTurn at h
      (repeat (obtain ⟨_, h⟩ := h))
      first | omega | exact absurd ‹Od _ 0 _› (fun z => by cases z)
    exact ⟨fun vs H Q E ⟨us, μ, _, _, _, _, _, h, _⟩ => absurd h (no us μ _), fun A outer s H args us vs Q E _ _ _ _ ⟨us', μ, _, _, _, _, _, h, _⟩ => absurd h (no us' μ _)⟩
  | n + 1 => fnD F sc__law_turned (fun us μ Q h => by unfold spTurn at h; (repeat (obtain ⟨_, h⟩ := h)); subst_vars; rfl)
      (fun cdv A outer s H E hr => q__law_turned (kr := 26 + n) (Nat.le_add_right _ _) B D__law_take D__law_odd ⟨⟨f, fd, okN__law_turned B D__law_take D__law_odd F hm hk hb n, hm, hk, hb⟩⟩ hr) (r_turned n)
theorem ok__law_turned {f : Addr} {fd : FuncData} (B : Blt mg bltNames) (D__law_take : DefOk P w K mg base 1 "_law_take" ["box", "m"] sp__law_take) (D__law_odd : DefOk P w K mg base 26 "_law_odd" ["box", "depth_v"] sp__law_odd) (F : Fun K "_law_turned" "_law_turned" s__law_turned f fd) (hm : mg "_law_turned" = some (.ref f)) (hk : PySem.W.keepIn K (.ref f) = true) (hb : Binds K fd ["box", "told", "depth_v"] []) :
    DefOk P w K mg base 34 "_law_turned" ["box", "told", "depth_v"] sp__law_turned := ⟨⟨f, fd, (okN__law_turned B D__law_take D__law_odd F hm hk hb 7).mono (by decide), hm, hk, hb⟩⟩
end
end K19
namespace K19
open PySem PySem.Spec PyProof.Rows L2 W3 CB MS M19
theorem all_mk {l : PySem.W.OpenLaw} {w : World} {K : PySem.W.Frag} {h : Heap} {mg : Str → Option Value} {fa f1 f2 f3 f4 f5 f6 f7 f8 f9 f10 f11 f12 f13 f14 f15 f16 f17 f18 f19 f20 f21 f22 f23 f24 f25 f26 f27 f28 f29 f30 f31 f32 f33 f34 f35 f36 f37 f38 f39 f40 f41 : Addr} {od1 an1 od2 an2 od3 an3 od4 an4 od5 an5 od6 an6 od7 an7 od8 an8 od9 an9 od10 an10 od11 an11 od12 an12 od13 an13 od14 an14 od15 an15 od16 an16 od17 an17 od18 an18 od19 an19 od20 an20 od21 an21 od22 an22 od23 an23 od24 an24 od25 an25 od26 an26 od27 an27 od28 an28 od29 an29 od30 an30 od31 an31 od32 an32 od33 an33 od34 an34 od35 an35 od36 an36 od37 an37 od38 an38 od39 an39 od40 an40 od41 an41 : Option Addr} {sl1 sl2 sl3 sl4 sl5 sl6 sl7 sl8 sl9 sl10 sl11 sl12 sl13 sl14 sl15 sl16 sl17 sl18 sl19 sl20 sl21 sl22 sl23 sl24 sl25 sl26 sl27 sl28 sl29 sl30 sl31 sl32 sl33 sl34 sl35 sl36 sl37 sl38 sl39 sl40 sl41 : Array (Option Value)} {oc1 kV1 dc1 pm1 cd1 ct1 oc2 kV2 dc2 pm2 cd2 ct2 oc3 kV3 dc3 pm3 cd3 ct3 oc4 kV4 dc4 pm4 cd4 ct4 oc5 kV5 dc5 pm5 cd5 ct5 oc6 kV6 dc6 pm6 cd6 ct6 oc7 kV7 dc7 pm7 cd7 ct7 oc8 kV8 dc8 pm8 cd8 ct8 oc9 kV9 dc9 pm9 cd9 ct9 oc10 kV10 dc10 pm10 cd10 ct10 oc11 kV11 dc11 pm11 cd11 ct11 oc12 kV12 dc12 pm12 cd12 ct12 oc13 kV13 dc13 pm13 cd13 ct13 oc14 kV14 dc14 pm14 cd14 ct14 oc15 kV15 dc15 pm15 cd15 ct15 oc16 kV16 dc16 pm16 cd16 ct16 oc17 kV17 dc17 pm17 cd17 ct17 oc18 kV18 dc18 pm18 cd18 ct18 oc19 kV19 dc19 pm19 cd19 ct19 oc20 kV20 dc20 pm20 cd20 ct20 oc21 kV21 dc21 pm21 cd21 ct21 oc22 kV22 dc22 pm22 cd22 ct22 oc23 kV23 dc23 pm23 cd23 ct23 oc24 kV24 dc24 pm24 cd24 ct24 oc25 kV25 dc25 pm25 cd25 ct25 oc26 kV26 dc26 pm26 cd26 ct26 oc27 kV27 dc27 pm27 cd27 ct27 oc28 kV28 dc28 pm28 cd28 ct28 oc29 kV29 dc29 pm29 cd29 ct29 oc30 kV30 dc30 pm30 cd30 ct30 oc31 kV31 dc31 pm31 cd31 ct31 oc32 kV32 dc32 pm32 cd32 ct32 oc33 kV33 dc33 pm33 cd33 ct33 oc34 kV34 dc34 pm34 cd34 ct34 oc35 kV35 dc35 pm35 cd35 ct35 oc36 kV36 dc36 pm36 cd36 ct36 oc37 kV37 dc37 pm37 cd37 ct37 oc38 kV38 dc38 pm38 cd38 ct38 oc39 kV39 dc39 pm39 cd39 ct39 oc40 kV40 dc40 pm40 cd40 ct40 oc41 kV41 dc41 pm41 ct41 : Value} {fc_BadGame fc_BadKind fc_BadPlace fc_TooMuch : Addr} {cL PL : Addr} {tk2 : Tok} {ta1 : Addr} {td1 : Option Addr} {tn1 : Nat} {ts1 : Array (Option Value)} {tt1_0 tt1_1 tt1_2 tt1_3 tt1_4 : Tok} (X : K.In h) (G : h.Ns mainGlobals mg) (hfa : mg "law" = some (.ref fa))
    (a1 : PySem.W.nsIn K mainGlobals "_law_box" = some (some (.ref f1))) (l1 : K.lookup f1 = some ⟨oc1, od1, .func (PySem.W.fnOf "_law_box" "_law_box" (defArgs s__law_box) (defBody s__law_box) (defScope s__law_box) .none kV1 dc1 pm1 an1 cd1 ct1), sl1⟩) (c1 : PySem.W.codeIn K cd1 "_law_box" = true) (k1 : PySem.W.keepIn K (.ref f1) = true)
    (a2 : PySem.W.nsIn K mainGlobals "_law_take" = some (some (.ref f2))) (l2 : K.lookup f2 = some ⟨oc2, od2, .func (PySem.W.fnOf "_law_take" "_law_take" (defArgs s__law_take) (defBody s__law_take) (defScope s__law_take) .none kV2 dc2 pm2 an2 cd2 ct2), sl2⟩) (c2 : PySem.W.codeIn K cd2 "_law_take" = true) (k2 : PySem.W.keepIn K (.ref f2) = true)
    (a3 : PySem.W.nsIn K mainGlobals "_law_pick" = some (some (.ref f3))) (l3 : K.lookup f3 = some ⟨oc3, od3, .func (PySem.W.fnOf "_law_pick" "_law_pick" (defArgs s__law_pick) (defBody s__law_pick) (defScope s__law_pick) .none kV3 dc3 pm3 an3 cd3 ct3), sl3⟩) (c3 : PySem.W.codeIn K cd3 "_law_pick" = true) (k3 : PySem.W.keepIn K (.ref f3) = true)
    (a4 : PySem.W.nsIn K mainGlobals "_law_formula" = some (some (.ref f4))) (l4 : K.lookup f4 = some ⟨oc4, od4, .func (PySem.W.fnOf "_law_formula" "_law_formula" (defArgs s__law_formula) (defBody s__law_formula) (defScope s__law_formula) .none kV4 dc4 pm4 an4 cd4 ct4), sl4⟩) (c4 : PySem.W.codeIn K cd4 "_law_formula" = true) (k4 : PySem.W.keepIn K (.ref f4) = true)
    (a5 : PySem.W.nsIn K mainGlobals "_law_is_formula" = some (some (.ref f5))) (l5 : K.lookup f5 = some ⟨oc5, od5, .func (PySem.W.fnOf "_law_is_formula" "_law_is_formula" (defArgs s__law_is_formula) (defBody s__law_is_formula) (defScope s__law_is_formula) .none kV5 dc5 pm5 an5 cd5 ct5), sl5⟩) (c5 : PySem.W.codeIn K cd5 "_law_is_formula" = true) (k5 : PySem.W.keepIn K (.ref f5) = true)
    (a6 : PySem.W.nsIn K mainGlobals "_law_whole" = some (some (.ref f6))) (l6 : K.lookup f6 = some ⟨oc6, od6, .func (PySem.W.fnOf "_law_whole" "_law_whole" (defArgs s__law_whole) (defBody s__law_whole) (defScope s__law_whole) .none kV6 dc6 pm6 an6 cd6 ct6), sl6⟩) (c6 : PySem.W.codeIn K cd6 "_law_whole" = true) (k6 : PySem.W.keepIn K (.ref f6) = true)
    (a7 : PySem.W.nsIn K mainGlobals "_law_is_sentence" = some (some (.ref f7))) (l7 : K.lookup f7 = some ⟨oc7, od7, .func (PySem.W.fnOf "_law_is_sentence" "_law_is_sentence" (defArgs s__law_is_sentence) (defBody s__law_is_sentence) (defScope s__law_is_sentence) .none kV7 dc7 pm7 an7 cd7 ct7), sl7⟩) (c7 : PySem.W.codeIn K cd7 "_law_is_sentence" = true) (k7 : PySem.W.keepIn K (.ref f7) = true)
    (a8 : PySem.W.nsIn K mainGlobals "_law_is_system" = some (some (.ref f8))) (l8 : K.lookup f8 = some ⟨oc8, od8, .func (PySem.W.fnOf "_law_is_system" "_law_is_system" (defArgs s__law_is_system) (defBody s__law_is_system) (defScope s__law_is_system) .none kV8 dc8 pm8 an8 cd8 ct8), sl8⟩) (c8 : PySem.W.codeIn K cd8 "_law_is_system" = true) (k8 : PySem.W.keepIn K (.ref f8) = true)
    (a9 : PySem.W.nsIn K mainGlobals "_law_is_wide" = some (some (.ref f9))) (l9 : K.lookup f9 = some ⟨oc9, od9, .func (PySem.W.fnOf "_law_is_wide" "_law_is_wide" (defArgs s__law_is_wide) (defBody s__law_is_wide) (defScope s__law_is_wide) .none kV9 dc9 pm9 an9 cd9 ct9), sl9⟩) (c9 : PySem.W.codeIn K cd9 "_law_is_wide" = true) (k9 : PySem.W.keepIn K (.ref f9) = true)
    (a10 : PySem.W.nsIn K mainGlobals "_law_refusal" = some (some (.ref f10))) (l10 : K.lookup f10 = some ⟨oc10, od10, .func (PySem.W.fnOf "_law_refusal" "_law_refusal" (defArgs s__law_refusal) (defBody s__law_refusal) (defScope s__law_refusal) .none kV10 dc10 pm10 an10 cd10 ct10), sl10⟩) (c10 : PySem.W.codeIn K cd10 "_law_refusal" = true) (k10 : PySem.W.keepIn K (.ref f10) = true)
    (a11 : PySem.W.nsIn K mainGlobals "_law_says" = some (some (.ref f11))) (l11 : K.lookup f11 = some ⟨oc11, od11, .func (PySem.W.fnOf "_law_says" "_law_says" (defArgs s__law_says) (defBody s__law_says) (defScope s__law_says) .none kV11 dc11 pm11 an11 cd11 ct11), sl11⟩) (c11 : PySem.W.codeIn K cd11 "_law_says" = true) (k11 : PySem.W.keepIn K (.ref f11) = true)
    (a12 : PySem.W.nsIn K mainGlobals "_law_sentence" = some (some (.ref f12))) (l12 : K.lookup f12 = some ⟨oc12, od12, .func (PySem.W.fnOf "_law_sentence" "_law_sentence" (defArgs s__law_sentence) (defBody s__law_sentence) (defScope s__law_sentence) .none kV12 dc12 pm12 an12 cd12 ct12), sl12⟩) (c12 : PySem.W.codeIn K cd12 "_law_sentence" = true) (k12 : PySem.W.keepIn K (.ref f12) = true)
    (a13 : PySem.W.nsIn K mainGlobals "_law_system" = some (some (.ref f13))) (l13 : K.lookup f13 = some ⟨oc13, od13, .func (PySem.W.fnOf "_law_system" "_law_system" (defArgs s__law_system) (defBody s__law_system) (defScope s__law_system) .none kV13 dc13 pm13 an13 cd13 ct13), sl13⟩) (c13 : PySem.W.codeIn K cd13 "_law_system" = true) (k13 : PySem.W.keepIn K (.ref f13) = true)
    (a14 : PySem.W.nsIn K mainGlobals "_law_odd" = some (some (.ref f14))) (l14 : K.lookup f14 = some ⟨oc14, od14, .func (PySem.W.fnOf "_law_odd" "_law_odd" (defArgs s__law_odd) (defBody s__law_odd) (defScope s__law_odd) .none kV14 dc14 pm14 an14 cd14 ct14), sl14⟩) (c14 : PySem.W.codeIn K cd14 "_law_odd" = true) (k14 : PySem.W.keepIn K (.ref f14) = true)
    (a15 : PySem.W.nsIn K mainGlobals "_law_turned" = some (some (.ref f15))) (l15 : K.lookup f15 = some ⟨oc15, od15, .func (PySem.W.fnOf "_law_turned" "_law_turned" (defArgs s__law_turned) (defBody s__law_turned) (defScope s__law_turned) .none kV15 dc15 pm15 an15 cd15 ct15), sl15⟩) (c15 : PySem.W.codeIn K cd15 "_law_turned" = true) (k15 : PySem.W.keepIn K (.ref f15) = true)
    (a16 : PySem.W.nsIn K mainGlobals "check_state" = some (some (.ref f16))) (l16 : K.lookup f16 = some ⟨oc16, od16, .func (PySem.W.fnOf "check_state" "check_state" (defArgs s_check_state) (defBody s_check_state) (defScope s_check_state) .none kV16 dc16 pm16 an16 cd16 ct16), sl16⟩) (c16 : PySem.W.codeIn K cd16 "check_state" = true) (k16 : PySem.W.keepIn K (.ref f16) = true)
    (a17 : PySem.W.nsIn K mainGlobals "is_number" = some (some (.ref f17))) (l17 : K.lookup f17 = some ⟨oc17, od17, .func (PySem.W.fnOf "is_number" "is_number" (defArgs s_is_number) (defBody s_is_number) (defScope s_is_number) .none kV17 dc17 pm17 an17 cd17 ct17), sl17⟩) (c17 : PySem.W.codeIn K cd17 "is_number" = true) (k17 : PySem.W.keepIn K (.ref f17) = true)
    (a18 : PySem.W.nsIn K mainGlobals "is_below" = some (some (.ref f18))) (l18 : K.lookup f18 = some ⟨oc18, od18, .func (PySem.W.fnOf "is_below" "is_below" (defArgs s_is_below) (defBody s_is_below) (defScope s_is_below) .none kV18 dc18 pm18 an18 cd18 ct18), sl18⟩) (c18 : PySem.W.codeIn K cd18 "is_below" = true) (k18 : PySem.W.keepIn K (.ref f18) = true)
    (a19 : PySem.W.nsIn K mainGlobals "is_tuple" = some (some (.ref f19))) (l19 : K.lookup f19 = some ⟨oc19, od19, .func (PySem.W.fnOf "is_tuple" "is_tuple" (defArgs s_is_tuple) (defBody s_is_tuple) (defScope s_is_tuple) .none kV19 dc19 pm19 an19 cd19 ct19), sl19⟩) (c19 : PySem.W.codeIn K cd19 "is_tuple" = true) (k19 : PySem.W.keepIn K (.ref f19) = true)
    (a20 : PySem.W.nsIn K mainGlobals "is_word" = some (some (.ref f20))) (l20 : K.lookup f20 = some ⟨oc20, od20, .func (PySem.W.fnOf "is_word" "is_word" (defArgs s_is_word) (defBody s_is_word) (defScope s_is_word) .none kV20 dc20 pm20 an20 cd20 ct20), sl20⟩) (c20 : PySem.W.codeIn K cd20 "is_word" = true) (k20 : PySem.W.keepIn K (.ref f20) = true)
    (a21 : PySem.W.nsIn K mainGlobals "is_system" = some (some (.ref f21))) (l21 : K.lookup f21 = some ⟨oc21, od21, .func (PySem.W.fnOf "is_system" "is_system" (defArgs s_is_system) (defBody s_is_system) (defScope s_is_system) .none kV21 dc21 pm21 an21 cd21 ct21), sl21⟩) (c21 : PySem.W.codeIn K cd21 "is_system" = true) (k21 : PySem.W.keepIn K (.ref f21) = true)
    (a22 : PySem.W.nsIn K mainGlobals "check_system" = some (some (.ref f22))) (l22 : K.lookup f22 = some ⟨oc22, od22, .func (PySem.W.fnOf "check_system" "check_system" (defArgs s_check_system) (defBody s_check_system) (defScope s_check_system) .none kV22 dc22 pm22 an22 cd22 ct22), sl22⟩) (c22 : PySem.W.codeIn K cd22 "check_system" = true) (k22 : PySem.W.keepIn K (.ref f22) = true)
    (a23 : PySem.W.nsIn K mainGlobals "alike" = some (some (.ref f23))) (l23 : K.lookup f23 = some ⟨oc23, od23, .func (PySem.W.fnOf "alike" "alike" (defArgs s_alike) (defBody s_alike) (defScope s_alike) .none kV23 dc23 pm23 an23 cd23 ct23), sl23⟩) (c23 : PySem.W.codeIn K cd23 "alike" = true) (k23 : PySem.W.keepIn K (.ref f23) = true)
    (a24 : PySem.W.nsIn K mainGlobals "are_below" = some (some (.ref f24))) (l24 : K.lookup f24 = some ⟨oc24, od24, .func (PySem.W.fnOf "are_below" "are_below" (defArgs s_are_below) (defBody s_are_below) (defScope s_are_below) .none kV24 dc24 pm24 an24 cd24 ct24), sl24⟩) (c24 : PySem.W.codeIn K cd24 "are_below" = true) (k24 : PySem.W.keepIn K (.ref f24) = true)
    (a25 : PySem.W.nsIn K mainGlobals "is_net" = some (some (.ref f25))) (l25 : K.lookup f25 = some ⟨oc25, od25, .func (PySem.W.fnOf "is_net" "is_net" (defArgs s_is_net) (defBody s_is_net) (defScope s_is_net) .none kV25 dc25 pm25 an25 cd25 ct25), sl25⟩) (c25 : PySem.W.codeIn K cd25 "is_net" = true) (k25 : PySem.W.keepIn K (.ref f25) = true)
    (a26 : PySem.W.nsIn K mainGlobals "check_net" = some (some (.ref f26))) (l26 : K.lookup f26 = some ⟨oc26, od26, .func (PySem.W.fnOf "check_net" "check_net" (defArgs s_check_net) (defBody s_check_net) (defScope s_check_net) .none kV26 dc26 pm26 an26 cd26 ct26), sl26⟩) (c26 : PySem.W.codeIn K cd26 "check_net" = true) (k26 : PySem.W.keepIn K (.ref f26) = true)
    (a27 : PySem.W.nsIn K mainGlobals "is_whole" = some (some (.ref f27))) (l27 : K.lookup f27 = some ⟨oc27, od27, .func (PySem.W.fnOf "is_whole" "is_whole" (defArgs s_is_whole) (defBody s_is_whole) (defScope s_is_whole) .none kV27 dc27 pm27 an27 cd27 ct27), sl27⟩) (c27 : PySem.W.codeIn K cd27 "is_whole" = true) (k27 : PySem.W.keepIn K (.ref f27) = true)
    (a28 : PySem.W.nsIn K mainGlobals "apart_by" = some (some (.ref f28))) (l28 : K.lookup f28 = some ⟨oc28, od28, .func (PySem.W.fnOf "apart_by" "apart_by" (defArgs s_apart_by) (defBody s_apart_by) (defScope s_apart_by) .none kV28 dc28 pm28 an28 cd28 ct28), sl28⟩) (c28 : PySem.W.codeIn K cd28 "apart_by" = true) (k28 : PySem.W.keepIn K (.ref f28) = true)
    (a29 : PySem.W.nsIn K mainGlobals "classes" = some (some (.ref f29))) (l29 : K.lookup f29 = some ⟨oc29, od29, .func (PySem.W.fnOf "classes" "classes" (defArgs s_classes) (defBody s_classes) (defScope s_classes) .none kV29 dc29 pm29 an29 cd29 ct29), sl29⟩) (c29 : PySem.W.codeIn K cd29 "classes" = true) (k29 : PySem.W.keepIn K (.ref f29) = true)
    (a30 : PySem.W.nsIn K mainGlobals "is_sentence" = some (some (.ref f30))) (l30 : K.lookup f30 = some ⟨oc30, od30, .func (PySem.W.fnOf "is_sentence" "is_sentence" (defArgs s_is_sentence) (defBody s_is_sentence) (defScope s_is_sentence) .none kV30 dc30 pm30 an30 cd30 ct30), sl30⟩) (c30 : PySem.W.codeIn K cd30 "is_sentence" = true) (k30 : PySem.W.keepIn K (.ref f30) = true)
    (a31 : PySem.W.nsIn K mainGlobals "check_sentence" = some (some (.ref f31))) (l31 : K.lookup f31 = some ⟨oc31, od31, .func (PySem.W.fnOf "check_sentence" "check_sentence" (defArgs s_check_sentence) (defBody s_check_sentence) (defScope s_check_sentence) .none kV31 dc31 pm31 an31 cd31 ct31), sl31⟩) (c31 : PySem.W.codeIn K cd31 "check_sentence" = true) (k31 : PySem.W.keepIn K (.ref f31) = true)
    (a32 : PySem.W.nsIn K mainGlobals "depth_of" = some (some (.ref f32))) (l32 : K.lookup f32 = some ⟨oc32, od32, .func (PySem.W.fnOf "depth_of" "depth_of" (defArgs s_depth_of) (defBody s_depth_of) (defScope s_depth_of) .none kV32 dc32 pm32 an32 cd32 ct32), sl32⟩) (c32 : PySem.W.codeIn K cd32 "depth_of" = true) (k32 : PySem.W.keepIn K (.ref f32) = true)
    (a33 : PySem.W.nsIn K mainGlobals "inner" = some (some (.ref f33))) (l33 : K.lookup f33 = some ⟨oc33, od33, .func (PySem.W.fnOf "inner" "inner" (defArgs s_inner) (defBody s_inner) (defScope s_inner) .none kV33 dc33 pm33 an33 cd33 ct33), sl33⟩) (c33 : PySem.W.codeIn K cd33 "inner" = true) (k33 : PySem.W.keepIn K (.ref f33) = true)
    (a34 : PySem.W.nsIn K mainGlobals "is_wide" = some (some (.ref f34))) (l34 : K.lookup f34 = some ⟨oc34, od34, .func (PySem.W.fnOf "is_wide" "is_wide" (defArgs s_is_wide) (defBody s_is_wide) (defScope s_is_wide) .none kV34 dc34 pm34 an34 cd34 ct34), sl34⟩) (c34 : PySem.W.codeIn K cd34 "is_wide" = true) (k34 : PySem.W.keepIn K (.ref f34) = true)
    (a35 : PySem.W.nsIn K mainGlobals "check_both" = some (some (.ref f35))) (l35 : K.lookup f35 = some ⟨oc35, od35, .func (PySem.W.fnOf "check_both" "check_both" (defArgs s_check_both) (defBody s_check_both) (defScope s_check_both) .none kV35 dc35 pm35 an35 cd35 ct35), sl35⟩) (c35 : PySem.W.codeIn K cd35 "check_both" = true) (k35 : PySem.W.keepIn K (.ref f35) = true)
    (a36 : PySem.W.nsIn K mainGlobals "game_of" = some (some (.ref f36))) (l36 : K.lookup f36 = some ⟨oc36, od36, .func (PySem.W.fnOf "game_of" "game_of" (defArgs s_game_of) (defBody s_game_of) (defScope s_game_of) .none kV36 dc36 pm36 an36 cd36 ct36), sl36⟩) (c36 : PySem.W.codeIn K cd36 "game_of" = true) (k36 : PySem.W.keepIn K (.ref f36) = true)
    (a37 : PySem.W.nsIn K mainGlobals "is_formula" = some (some (.ref f37))) (l37 : K.lookup f37 = some ⟨oc37, od37, .func (PySem.W.fnOf "is_formula" "is_formula" (defArgs s_is_formula) (defBody s_is_formula) (defScope s_is_formula) .none kV37 dc37 pm37 an37 cd37 ct37), sl37⟩) (c37 : PySem.W.codeIn K cd37 "is_formula" = true) (k37 : PySem.W.keepIn K (.ref f37) = true)
    (a38 : PySem.W.nsIn K mainGlobals "holds_at" = some (some (.ref f38))) (l38 : K.lookup f38 = some ⟨oc38, od38, .func (PySem.W.fnOf "holds_at" "holds_at" (defArgs s_holds_at) (defBody s_holds_at) (defScope s_holds_at) .none kV38 dc38 pm38 an38 cd38 ct38), sl38⟩) (c38 : PySem.W.codeIn K cd38 "holds_at" = true) (k38 : PySem.W.keepIn K (.ref f38) = true)
    (a39 : PySem.W.nsIn K mainGlobals "is_likeness" = some (some (.ref f39))) (l39 : K.lookup f39 = some ⟨oc39, od39, .func (PySem.W.fnOf "is_likeness" "is_likeness" (defArgs s_is_likeness) (defBody s_is_likeness) (defScope s_is_likeness) .none kV39 dc39 pm39 an39 cd39 ct39), sl39⟩) (c39 : PySem.W.codeIn K cd39 "is_likeness" = true) (k39 : PySem.W.keepIn K (.ref f39) = true)
    (a40 : PySem.W.nsIn K mainGlobals "where" = some (some (.ref f40))) (l40 : K.lookup f40 = some ⟨oc40, od40, .func (PySem.W.fnOf "where" "where" (defArgs s_where) (defBody s_where) (defScope s_where) .none kV40 dc40 pm40 an40 cd40 ct40), sl40⟩) (c40 : PySem.W.codeIn K cd40 "where" = true) (k40 : PySem.W.keepIn K (.ref f40) = true)
    (a41 : PySem.W.nsIn K mainGlobals "law" = some (some (.ref f41))) (l41 : K.lookup f41 = some ⟨oc41, od41, .func (PySem.W.fnOf "law" "law" (defArgs s_law) (defBody s_law) (defScope s_law) .none kV41 dc41 pm41 an41 (.ref cL) ct41), sl41⟩) (c41 : PySem.W.codeIn K (.ref cL) "law" = true) (k41 : PySem.W.keepIn K (.ref f41) = true)
    (g1 : PySem.W.nsIn K mainGlobals "LABELS" = some (some (.ref ta1))) (hg1 : K.lookup ta1 = some ⟨.type "tuple", td1, .seq #[.str "a" tt1_0, .str "b" tt1_1, .str "c" tt1_2, .str "d" tt1_3, .str "e" tt1_4] tn1, ts1⟩)
    (g2 : PySem.W.nsIn K mainGlobals "MOST_POINTS" = some (some (.int 5 tk2)))
    (z1 : PySem.W.nsIn K mainGlobals "abs" = some none) (z2 : PySem.W.nsIn K mainGlobals "all" = some none) (z3 : PySem.W.nsIn K mainGlobals "bool" = some none) (z4 : PySem.W.nsIn K mainGlobals "dict" = some none) (z5 : PySem.W.nsIn K mainGlobals "int" = some none) (z6 : PySem.W.nsIn K mainGlobals "isinstance" = some none) (z7 : PySem.W.nsIn K mainGlobals "len" = some none) (z8 : PySem.W.nsIn K mainGlobals "max" = some none) (z9 : PySem.W.nsIn K mainGlobals "range" = some none) (z10 : PySem.W.nsIn K mainGlobals "str" = some none) (z11 : PySem.W.nsIn K mainGlobals "tuple" = some none)
    (e1_BadGame : PySem.W.nsIn K mainGlobals "BadGame" = some (some (.ref fc_BadGame)))
    (e4_BadGame : PySem.W.subIn K (.ref fc_BadGame) (.type "BaseException") = some true)
    (e5_BadGame : PySem.W.typeIn K (.ref fc_BadGame) = some (.type "type"))
    (e6_BadGame : PySem.W.isClsIn K fc_BadGame = true)
    (e7_BadGame : PySem.W.subIn K (.ref fc_BadGame) (.ref fc_BadGame) = some true)
    (e2_BadGame : PySem.W.keepIn K (.ref fc_BadGame) = true)
    (e3_BadGame : PySem.W.excIn K fc_BadGame [.type "ValueError", .type "Exception", .type "BaseException", .type "object"] "ValueError.__new__" = true)
    (e1_BadKind : PySem.W.nsIn K mainGlobals "BadKind" = some (some (.ref fc_BadKind)))
    (e4_BadKind : PySem.W.subIn K (.ref fc_BadKind) (.type "BaseException") = some true)
    (e5_BadKind : PySem.W.typeIn K (.ref fc_BadKind) = some (.type "type"))
    (e6_BadKind : PySem.W.isClsIn K fc_BadKind = true)
    (e7_BadKind : PySem.W.subIn K (.ref fc_BadKind) (.ref fc_BadKind) = some true)
    (e1_BadPlace : PySem.W.nsIn K mainGlobals "BadPlace" = some (some (.ref fc_BadPlace)))
    (e4_BadPlace : PySem.W.subIn K (.ref fc_BadPlace) (.type "BaseException") = some true)
    (e5_BadPlace : PySem.W.typeIn K (.ref fc_BadPlace) = some (.type "type"))
    (e6_BadPlace : PySem.W.isClsIn K fc_BadPlace = true)
    (e7_BadPlace : PySem.W.subIn K (.ref fc_BadPlace) (.ref fc_BadPlace) = some true)
    (e2_BadPlace : PySem.W.keepIn K (.ref fc_BadPlace) = true)
    (e3_BadPlace : PySem.W.excIn K fc_BadPlace [.type "ValueError", .type "Exception", .type "BaseException", .type "object"] "ValueError.__new__" = true)
    (e1_TooMuch : PySem.W.nsIn K mainGlobals "TooMuch" = some (some (.ref fc_TooMuch)))
    (e4_TooMuch : PySem.W.subIn K (.ref fc_TooMuch) (.type "BaseException") = some true)
    (e5_TooMuch : PySem.W.typeIn K (.ref fc_TooMuch) = some (.type "type"))
    (e6_TooMuch : PySem.W.isClsIn K fc_TooMuch = true)
    (e7_TooMuch : PySem.W.subIn K (.ref fc_TooMuch) (.ref fc_TooMuch) = some true)
    (e2_TooMuch : PySem.W.keepIn K (.ref fc_TooMuch) = true)
    (e3_TooMuch : PySem.W.excIn K fc_TooMuch [.type "ValueError", .type "Exception", .type "BaseException", .type "object"] "ValueError.__new__" = true)
    (n_BadKind_BadGame : PySem.W.subIn K (.ref fc_BadKind) (.ref fc_BadGame) = some false)
    (n_BadPlace_BadGame : PySem.W.subIn K (.ref fc_BadPlace) (.ref fc_BadGame) = some false)
    (n_BadPlace_BadKind : PySem.W.subIn K (.ref fc_BadPlace) (.ref fc_BadKind) = some false)
    (n_TooMuch_BadGame : PySem.W.subIn K (.ref fc_TooMuch) (.ref fc_BadGame) = some false)
    (n_TooMuch_BadKind : PySem.W.subIn K (.ref fc_TooMuch) (.ref fc_BadKind) = some false)
    (n_TooMuch_BadPlace : PySem.W.subIn K (.ref fc_TooMuch) (.ref fc_BadPlace) = some false)
    (hPT : h.get? PL = some (PySem.W.tabObj #[]))
    (hT : PySem.W.tabIn K "law" = some (cL, PL))
    (hcT : PySem.W.codeHdIn K cL PL = true)
    (hnT : K.lookup PL = none) :
    LamX.LawAtS l w K CX0 37 63 "script" mg fa h := by
  have e := hfa.symm.trans (PySem.W.mg_of X G a41)
  cases e
  have B : Blt mg bltNames := by
    intro x hx
    simp only [bltNames, List.mem_cons, List.not_mem_nil, or_false] at hx
    rcases hx with rfl | rfl | rfl | rfl | rfl | rfl | rfl | rfl | rfl | rfl | rfl
    · exact PySem.W.mg_none_of X G z1
    · exact PySem.W.mg_none_of X G z2
    · exact PySem.W.mg_none_of X G z3
    · exact PySem.W.mg_none_of X G z4
    · exact PySem.W.mg_none_of X G z5
    · exact PySem.W.mg_none_of X G z6
    · exact PySem.W.mg_none_of X G z7
    · exact PySem.W.mg_none_of X G z8
    · exact PySem.W.mg_none_of X G z9
    · exact PySem.W.mg_none_of X G z10
    · exact PySem.W.mg_none_of X G z11
  have F1 := fun_mk (st := s__law_box) l1 c1 k1
  have b1 := F1.binds (ps := ["script"]) fun _ _ _ _ _ _ us hl => match us, hl with | [_], _ => rfl
  have F2 := fun_mk (st := s__law_take) l2 c2 k2
  have b2 := F2.binds (ps := ["box", "m"]) fun _ _ _ _ _ _ us hl => match us, hl with | [_, _], _ => rfl
  have F3 := fun_mk (st := s__law_pick) l3 c3 k3
  have b3 := F3.binds (ps := ["box", "menu"]) fun _ _ _ _ _ _ us hl => match us, hl with | [_, _], _ => rfl
  have F4 := fun_mk (st := s__law_formula) l4 c4 k4
  have b4 := F4.binds (ps := ["box", "deep", "letters", "names", "straight", "rounds"]) fun _ _ _ _ _ _ us hl => match us, hl with | [_, _, _, _, _, _], _ => rfl
  have F5 := fun_mk (st := s__law_is_formula) l5 c5 k5
  have b5 := F5.binds (ps := ["x", "letters"]) fun _ _ _ _ _ _ us hl => match us, hl with | [_, _], _ => rfl
  have F6 := fun_mk (st := s__law_whole) l6 c6 k6
  have b6 := F6.binds (ps := ["x"]) fun _ _ _ _ _ _ us hl => match us, hl with | [_], _ => rfl
  have F7 := fun_mk (st := s__law_is_sentence) l7 c7 k7
  have b7 := F7.binds (ps := ["x"]) fun _ _ _ _ _ _ us hl => match us, hl with | [_], _ => rfl
  have F8 := fun_mk (st := s__law_is_system) l8 c8 k8
  have b8 := F8.binds (ps := ["x"]) fun _ _ _ _ _ _ us hl => match us, hl with | [_], _ => rfl
  have F9 := fun_mk (st := s__law_is_wide) l9 c9 k9
  have b9 := F9.binds (ps := ["x", "letters", "bound", "straight"]) fun _ _ _ _ _ _ us hl => match us, hl with | [_, _, _, _], _ => rfl
  have F10 := fun_mk (st := s__law_refusal) l10 c10 k10
  have b10 := F10.binds (ps := ["call"]) fun _ _ _ _ _ _ us hl => match us, hl with | [_], _ => rfl
  have F11 := fun_mk (st := s__law_says) l11 c11 k11
  have b11 := F11.binds (ps := ["x", "due"]) fun _ _ _ _ _ _ us hl => match us, hl with | [_, _], _ => rfl
  have F12 := fun_mk (st := s__law_sentence) l12 c12 k12
  have b12 := F12.binds (ps := ["box", "deep", "many"]) fun _ _ _ _ _ _ us hl => match us, hl with | [_, _, _], _ => rfl
  have F13 := fun_mk (st := s__law_system) l13 c13 k13
  have b13 := F13.binds (ps := ["box", "most", "letters"]) fun _ _ _ _ _ _ us hl => match us, hl with | [_, _, _], _ => rfl
  have F14 := fun_mk (st := s__law_odd) l14 c14 k14
  have b14 := F14.binds (ps := ["box", "depth_v"]) fun _ _ _ _ _ _ us hl => match us, hl with | [_, _], _ => rfl
  have F15 := fun_mk (st := s__law_turned) l15 c15 k15
  have b15 := F15.binds (ps := ["box", "told", "depth_v"]) fun _ _ _ _ _ _ us hl => match us, hl with | [_, _, _], _ => rfl
  have F16 := fun_mk (st := s_check_state) l16 c16 k16
  have b16 := F16.binds (ps := ["system", "x"]) fun _ _ _ _ _ _ us hl => match us, hl with | [_, _], _ => rfl
  have F17 := fun_mk (st := s_is_number) l17 c17 k17
  have b17 := F17.binds (ps := ["x"]) fun _ _ _ _ _ _ us hl => match us, hl with | [_], _ => rfl
  have F18 := fun_mk (st := s_is_below) l18 c18 k18
  have b18 := F18.binds (ps := ["n", "x"]) fun _ _ _ _ _ _ us hl => match us, hl with | [_, _], _ => rfl
  have F19 := fun_mk (st := s_is_tuple) l19 c19 k19
  have b19 := F19.binds (ps := ["x", "many"]) fun _ _ _ _ _ _ us hl => match us, hl with | [_, _], _ => rfl
  have F20 := fun_mk (st := s_is_word) l20 c20 k20
  have b20 := F20.binds (ps := ["x", "words"]) fun _ _ _ _ _ _ us hl => match us, hl with | [_, _], _ => rfl
  have F21 := fun_mk (st := s_is_system) l21 c21 k21
  have b21 := F21.binds (ps := ["x"]) fun _ _ _ _ _ _ us hl => match us, hl with | [_], _ => rfl
  have F22 := fun_mk (st := s_check_system) l22 c22 k22
  have b22 := F22.binds (ps := ["x"]) fun _ _ _ _ _ _ us hl => match us, hl with | [_], _ => rfl
  have F23 := fun_mk (st := s_alike) l23 c23 k23
  have b23 := F23.binds (ps := ["a", "x", "b", "y"]) fun _ _ _ _ _ _ us hl => match us, hl with | [_, _, _, _], _ => rfl
  have F24 := fun_mk (st := s_are_below) l24 c24 k24
  have b24 := F24.binds (ps := ["n", "x"]) fun _ _ _ _ _ _ us hl => match us, hl with | [_, _], _ => rfl
  have F25 := fun_mk (st := s_is_net) l25 c25 k25
  have b25 := F25.binds (ps := ["x", "most"]) fun _ _ _ _ _ _ us hl => match us, hl with | [_, _], _ => rfl
  have F26 := fun_mk (st := s_check_net) l26 c26 k26
  have b26 := F26.binds (ps := ["x"]) fun _ _ _ _ _ _ us hl => match us, hl with | [_], _ => rfl
  have F27 := fun_mk (st := s_is_whole) l27 c27 k27
  have b27 := F27.binds (ps := ["x"]) fun _ _ _ _ _ _ us hl => match us, hl with | [_], _ => rfl
  have F28 := fun_mk (st := s_apart_by) l28 c28 k28
  have b28 := F28.binds (ps := ["a", "b", "d"]) fun _ _ _ _ _ _ us hl => match us, hl with | [_, _, _], _ => rfl
  have F29 := fun_mk (st := s_classes) l29 c29 k29
  have b29 := F29.binds (ps := ["system"]) fun _ _ _ _ _ _ us hl => match us, hl with | [_], _ => rfl
  have F30 := fun_mk (st := s_is_sentence) l30 c30 k30
  have b30 := F30.binds (ps := ["x"]) fun _ _ _ _ _ _ us hl => match us, hl with | [_], _ => rfl
  have F31 := fun_mk (st := s_check_sentence) l31 c31 k31
  have b31 := F31.binds (ps := ["x"]) fun _ _ _ _ _ _ us hl => match us, hl with | [_], _ => rfl
  have F32 := fun_mk (st := s_depth_of) l32 c32 k32
  have b32 := F32.binds (ps := ["sentence"]) fun _ _ _ _ _ _ us hl => match us, hl with | [_], _ => rfl
  have F33 := fun_mk (st := s_inner) l33 c33 k33
  have b33 := F33.binds (ps := ["x", "wide"]) fun _ _ _ _ _ _ us hl => match us, hl with | [_, _], _ => rfl
  have F34 := fun_mk (st := s_is_wide) l34 c34 k34
  have b34 := F34.binds (ps := ["x"]) fun _ _ _ _ _ _ us hl => match us, hl with | [_], _ => rfl
  have F35 := fun_mk (st := s_check_both) l35 c35 k35
  have b35 := F35.binds (ps := ["system", "formula"]) fun _ _ _ _ _ _ us hl => match us, hl with | [_, _], _ => rfl
  have F36 := fun_mk (st := s_game_of) l36 c36 k36
  have b36 := F36.binds (ps := ["system", "formula"]) fun _ _ _ _ _ _ us hl => match us, hl with | [_, _], _ => rfl
  have F37 := fun_mk (st := s_is_formula) l37 c37 k37
  have b37 := F37.binds (ps := ["x"]) fun _ _ _ _ _ _ us hl => match us, hl with | [_], _ => rfl
  have F38 := fun_mk (st := s_holds_at) l38 c38 k38
  have b38 := F38.binds (ps := ["system", "x", "formula"]) fun _ _ _ _ _ _ us hl => match us, hl with | [_, _, _], _ => rfl
  have F39 := fun_mk (st := s_is_likeness) l39 c39 k39
  have b39 := F39.binds (ps := ["a", "b", "pairs"]) fun _ _ _ _ _ _ us hl => match us, hl with | [_, _, _], _ => rfl
  have F40 := fun_mk (st := s_where) l40 c40 k40
  have b40 := F40.binds (ps := ["system", "formula"]) fun _ _ _ _ _ _ us hl => match us, hl with | [_, _], _ => rfl
  have F41 := fun_mk (st := s_law) l41 c41 k41
  have M_BadGame := PySem.W.mg_of X G e1_BadGame
  have M_BadKind := PySem.W.mg_of X G e1_BadKind
  have M_BadPlace := PySem.W.mg_of X G e1_BadPlace
  have M_TooMuch := PySem.W.mg_of X G e1_TooMuch
  have S_BadGame := exm_of e4_BadGame e6_BadGame e5_BadGame e7_BadGame
  have S_BadKind := exm_of e4_BadKind e6_BadKind e5_BadKind e7_BadKind
  have S_BadPlace := exm_of e4_BadPlace e6_BadPlace e5_BadPlace e7_BadPlace
  have S_TooMuch := exm_of e4_TooMuch e6_TooMuch e5_TooMuch e7_TooMuch
  have X_BadPlace : ExcCls K mg excBm "BadPlace" fc_BadPlace := ⟨M_BadPlace, e2_BadPlace, e3_BadPlace, e4_BadPlace, e5_BadPlace, S_BadPlace⟩
  have X_BadGame : ExcCls K mg excBm "BadGame" fc_BadGame := ⟨M_BadGame, e2_BadGame, e3_BadGame, e4_BadGame, e5_BadGame, S_BadGame⟩
  have X_TooMuch : ExcCls K mg excBm "TooMuch" fc_TooMuch := ⟨M_TooMuch, e2_TooMuch, e3_TooMuch, e4_TooMuch, e5_TooMuch, S_TooMuch⟩
  refine lawAt_of (q := "law.<locals>.<lambda>") (sp := sp_law) X hT hcT hnT hPT ⟨PySem.W.fnOf "law" "law" (defArgs s_law) (defBody s_law) (defScope s_law) .none kV41 dc41 pm41 an41 (.ref cL) ct41, fun s v => .of_eq rfl, fun base _ _ TB => ?_⟩ (fun ns hl => ⟨ns, PL, rfl, rfl, hl, rfl⟩)
  have D__law_box : DefOk l.prog w K mg base 1 "_law_box" ["script"] sp__law_box := ⟨⟨f1, _, fnRaw F1 sc__law_box (fun us μ Q h => by unfold sp__law_box at h; (repeat (obtain ⟨_, h⟩ := h)) <;> (subst_vars; rfl)) (fun cdv A outer s H E hr => q__law_box B  hr) r__law_box, PySem.W.mg_of X G a1, k1, b1⟩⟩
  have D__law_take : DefOk l.prog w K mg base 1 "_law_take" ["box", "m"] sp__law_take := ⟨⟨f2, _, fnD F2 sc__law_take (fun us μ Q h => by unfold sp__law_take at h; (repeat (obtain ⟨_, h⟩ := h)) <;> (subst_vars; rfl)) (fun cdv A outer s H E hr => q__law_take B  hr) r__law_take, PySem.W.mg_of X G a2, k2, b2⟩⟩
  have D__law_pick : DefOk l.prog w K mg base 2 "_law_pick" ["box", "menu"] sp__law_pick := ⟨⟨f3, _, fnD F3 sc__law_pick (fun us μ Q h => by unfold sp__law_pick at h; (repeat (obtain ⟨_, h⟩ := h)) <;> (subst_vars; rfl)) (fun cdv A outer s H E hr => q__law_pick B D__law_take hr) r__law_pick, PySem.W.mg_of X G a3, k3, b3⟩⟩
  have D__law_formula : DefOk l.prog w K mg base 26 "_law_formula" ["box", "deep", "letters", "names", "straight", "rounds"] sp__law_formula := ok__law_formula B D__law_take D__law_pick F4 (PySem.W.mg_of X G a4) k4 b4
  have D__law_is_formula : DefOk l.prog w K mg base 26 "_law_is_formula" ["x", "letters"] sp__law_is_formula := ok__law_is_formula B  F5 (PySem.W.mg_of X G a5) k5 b5
  have D__law_whole : DefOk l.prog w K mg base 1 "_law_whole" ["x"] sp__law_whole := ⟨⟨f6, _, fnD F6 sc__law_whole (fun us μ Q h => by unfold sp__law_whole at h; (repeat (obtain ⟨_, h⟩ := h)) <;> (subst_vars; rfl)) (fun cdv A outer s H E hr => q__law_whole B  hr) r__law_whole, PySem.W.mg_of X G a6, k6, b6⟩⟩
  have D__law_is_sentence : DefOk l.prog w K mg base 26 "_law_is_sentence" ["x"] sp__law_is_sentence := ok__law_is_sentence B D__law_whole F7 (PySem.W.mg_of X G a7) k7 b7
  have D__law_is_system : DefOk l.prog w K mg base 2 "_law_is_system" ["x"] sp__law_is_system := ⟨⟨f8, _, fnD F8 sc__law_is_system (fun us μ Q h => by unfold sp__law_is_system at h; (repeat (obtain ⟨_, h⟩ := h)) <;> (subst_vars; rfl)) (fun cdv A outer s H E hr => q__law_is_system B D__law_whole hr) r__law_is_system, PySem.W.mg_of X G a8, k8, b8⟩⟩
  have D__law_is_wide : DefOk l.prog w K mg base 26 "_law_is_wide" ["x", "letters", "bound", "straight"] sp__law_is_wide := ok__law_is_wide B D__law_whole F9 (PySem.W.mg_of X G a9) k9 b9
  have RC__law_refusal : RefCs K mg [("BadGame", fc_BadGame, "BadGame"), ("BadKind", fc_BadKind, "BadKind"), ("BadPlace", fc_BadPlace, "BadPlace"), ("TooMuch", fc_TooMuch, "TooMuch")] := (.cons M_BadGame S_BadGame ⟨exm_of e4_BadGame e6_BadGame e5_BadGame n_BadKind_BadGame, exm_of e4_BadGame e6_BadGame e5_BadGame n_BadPlace_BadGame, exm_of e4_BadGame e6_BadGame e5_BadGame n_TooMuch_BadGame, trivial⟩ (.cons M_BadKind S_BadKind ⟨exm_of e4_BadKind e6_BadKind e5_BadKind n_BadPlace_BadKind, exm_of e4_BadKind e6_BadKind e5_BadKind n_TooMuch_BadKind, trivial⟩ (.cons M_BadPlace S_BadPlace ⟨exm_of e4_BadPlace e6_BadPlace e5_BadPlace n_TooMuch_BadPlace, trivial⟩ (.cons M_TooMuch S_TooMuch trivial .nil))))
  have G__law_refusal : GiverOk l.prog w K mg "_law_refusal" rets__law_refusal fin__law_refusal := by
    refine ⟨"call", f10, defArgs s__law_refusal, defBody s__law_refusal, defScope s__law_refusal, .none, kV10, dc10, pm10, cd10, ct10, oc10, an10, od10, sl10, N__law_refusal, ([("BadGame", fc_BadGame, "BadGame"), ("BadKind", fc_BadKind, "BadKind"), ("BadPlace", fc_BadPlace, "BadPlace"), ("TooMuch", fc_TooMuch, "TooMuch")] : List (Str × Addr × Str)).map (·.2), PySem.W.mg_of X G a10, k10, l10, c10, b10, sc__law_refusal, rfl, .inl rfl, ⟨by decide, by decide⟩, RC__law_refusal.refs, fun X1 q _ _ e3 e4 => ?_⟩
    subst e3
    subst e4
    exact gives_many (cs := [("BadGame", fc_BadGame, "BadGame"), ("BadKind", fc_BadKind, "BadKind"), ("BadPlace", fc_BadPlace, "BadPlace"), ("TooMuch", fc_TooMuch, "TooMuch")]) (.cons rfl rfl M_BadGame (.cons rfl rfl M_BadKind (.cons rfl rfl M_BadPlace (.cons rfl rfl M_TooMuch .nil)))) (fun _ => rfl)
  have D__law_says : DefOk l.prog w K mg base 1 "_law_says" ["x", "due"] sp__law_says := ⟨⟨f11, _, fnD F11 sc__law_says (fun us μ Q h => by unfold sp__law_says at h; (repeat (obtain ⟨_, h⟩ := h)) <;> (subst_vars; rfl)) (fun cdv A outer s H E hr => q__law_says B  hr) r__law_says, PySem.W.mg_of X G a11, k11, b11⟩⟩
  have D__law_sentence : DefOk l.prog w K mg base 26 "_law_sentence" ["box", "deep", "many"] sp__law_sentence := ok__law_sentence B D__law_take D__law_pick F12 (PySem.W.mg_of X G a12) k12 b12
  have D__law_system : DefOk l.prog w K mg base 2 "_law_system" ["box", "most", "letters"] sp__law_system := ⟨⟨f13, _, fnD F13 sc__law_system (fun us μ Q h => by unfold sp__law_system at h; (repeat (obtain ⟨_, h⟩ := h)) <;> (subst_vars; rfl)) (fun cdv A outer s H E hr => q__law_system B D__law_take hr) r__law_system, PySem.W.mg_of X G a13, k13, b13⟩⟩
  have D__law_odd : DefOk l.prog w K mg base 26 "_law_odd" ["box", "depth_v"] sp__law_odd := ok__law_odd B D__law_take D__law_pick F14 (PySem.W.mg_of X G a14) k14 b14
  have D__law_turned : DefOk l.prog w K mg base 34 "_law_turned" ["box", "told", "depth_v"] sp__law_turned := ok__law_turned B D__law_take D__law_odd F15 (PySem.W.mg_of X G a15) k15 b15
  have DX_check_state : DefOkX l.prog w K mg base 1 "check_state" ["system", "x"] spx_check_state := ⟨⟨f16, _, fnX F16 sc_check_state (fun us μ Q E h => by unfold spx_check_state at h; (repeat (obtain ⟨_, h⟩ := h)) <;> (subst_vars; rfl)) (fun cdv A outer s H E W hr tk => qx_check_state B X_BadPlace hr tk) rx_check_state, PySem.W.mg_of X G a16, k16, b16⟩⟩
  have D_is_number : DefOk l.prog w K mg base 1 "is_number" ["x"] sp_is_number := ⟨⟨f17, _, fnD F17 sc_is_number (fun us μ Q h => by unfold sp_is_number at h; (repeat (obtain ⟨_, h⟩ := h)) <;> (subst_vars; rfl)) (fun cdv A outer s H E hr => q_is_number B  hr) r_is_number, PySem.W.mg_of X G a17, k17, b17⟩⟩
  have D_is_below : DefOk l.prog w K mg base 2 "is_below" ["n", "x"] sp_is_below := ⟨⟨f18, _, fnD F18 sc_is_below (fun us μ Q h => by unfold sp_is_below at h; (repeat (obtain ⟨_, h⟩ := h)) <;> (subst_vars; rfl)) (fun cdv A outer s H E hr => q_is_below B D_is_number hr) r_is_below, PySem.W.mg_of X G a18, k18, b18⟩⟩
  have D_is_tuple : DefOk l.prog w K mg base 1 "is_tuple" ["x", "many"] sp_is_tuple := ⟨⟨f19, _, fnD F19 sc_is_tuple (fun us μ Q h => by unfold sp_is_tuple at h; (repeat (obtain ⟨_, h⟩ := h)) <;> (subst_vars; rfl)) (fun cdv A outer s H E hr => q_is_tuple B  hr) r_is_tuple, PySem.W.mg_of X G a19, k19, b19⟩⟩
  have D_is_word : DefOk l.prog w K mg base 1 "is_word" ["x", "words"] sp_is_word := ⟨⟨f20, _, fnD F20 sc_is_word (fun us μ Q h => by unfold sp_is_word at h; (repeat (obtain ⟨_, h⟩ := h)) <;> (subst_vars; rfl)) (fun cdv A outer s H E hr => q_is_word B  hr) r_is_word, PySem.W.mg_of X G a20, k20, b20⟩⟩
  have D_is_system : DefOk l.prog w K mg base 3 "is_system" ["x"] sp_is_system := ⟨⟨f21, _, fnD F21 sc_is_system (fun us μ Q h => by unfold sp_is_system at h; (repeat (obtain ⟨_, h⟩ := h)) <;> (subst_vars; rfl)) (fun cdv A outer s H E hr => q_is_system B D_is_tuple D_is_number D_is_word D_is_below ⟨_, _, _, _, PySem.W.mg_of X G g1, hg1, rfl, rfl, (by rw [sizeLine_eq]; exact Nat.le_of_ble_eq_true rfl), (.cons ⟨_, rfl⟩ (.cons ⟨_, rfl⟩ (.cons ⟨_, rfl⟩ (.cons ⟨_, rfl⟩ (.cons ⟨_, rfl⟩ .nil)))))⟩ hr) r_is_system, PySem.W.mg_of X G a21, k21, b21⟩⟩
  have DX_check_system : DefOkX l.prog w K mg base 4 "check_system" ["x"] spx_check_system := ⟨⟨f22, _, fnX F22 sc_check_system (fun us μ Q E h => by unfold spx_check_system at h; (repeat (obtain ⟨_, h⟩ := h)) <;> (subst_vars; rfl)) (fun cdv A outer s H E W hr tk => qx_check_system B D_is_system X_BadGame hr tk) rx_check_system, PySem.W.mg_of X G a22, k22, b22⟩⟩
  have DX_alike : DefOkX l.prog w K mg base 5 "alike" ["a", "x", "b", "y"] spx_alike := ⟨⟨f23, _, fnX F23 sc_alike (fun us μ Q E h => by unfold spx_alike at h; (repeat (obtain ⟨_, h⟩ := h)) <;> (subst_vars; rfl)) (fun cdv A outer s H E W hr tk => qx_alike B DX_check_system DX_check_state hr tk) rx_alike, PySem.W.mg_of X G a23, k23, b23⟩⟩
  have D_are_below : DefOk l.prog w K mg base 3 "are_below" ["n", "x"] sp_are_below := ⟨⟨f24, _, fnD F24 sc_are_below (fun us μ Q h => by unfold sp_are_below at h; (repeat (obtain ⟨_, h⟩ := h)) <;> (subst_vars; rfl)) (fun cdv A outer s H E hr => q_are_below B D_is_below hr) r_are_below, PySem.W.mg_of X G a24, k24, b24⟩⟩
  have D_is_net : DefOk l.prog w K mg base 4 "is_net" ["x", "most"] sp_is_net := ⟨⟨f25, _, fnD F25 sc_is_net (fun us μ Q h => by unfold sp_is_net at h; (repeat (obtain ⟨_, h⟩ := h)) <;> (subst_vars; rfl)) (fun cdv A outer s H E hr => q_is_net B D_is_tuple D_is_below D_are_below hr) r_is_net, PySem.W.mg_of X G a25, k25, b25⟩⟩
  have DX_check_net : DefOkX l.prog w K mg base 5 "check_net" ["x"] spx_check_net := ⟨⟨f26, _, fnX F26 sc_check_net (fun us μ Q E h => by unfold spx_check_net at h; (repeat (obtain ⟨_, h⟩ := h)) <;> (subst_vars; rfl)) (fun cdv A outer s H E W hr tk => qx_check_net B D_is_net ⟨_, PySem.W.mg_of X G g2⟩ X_BadGame hr tk) rx_check_net, PySem.W.mg_of X G a26, k26, b26⟩⟩
  have D_is_whole : DefOk l.prog w K mg base 1 "is_whole" ["x"] sp_is_whole := ⟨⟨f27, _, fnD F27 sc_is_whole (fun us μ Q h => by unfold sp_is_whole at h; (repeat (obtain ⟨_, h⟩ := h)) <;> (subst_vars; rfl)) (fun cdv A outer s H E hr => q_is_whole B  hr) r_is_whole, PySem.W.mg_of X G a27, k27, b27⟩⟩
  have DX_apart_by : DefOkX l.prog w K mg base 6 "apart_by" ["a", "b", "d"] spx_apart_by := ⟨⟨f28, _, fnX F28 sc_apart_by (fun us μ Q E h => by unfold spx_apart_by at h; (repeat (obtain ⟨_, h⟩ := h)) <;> (subst_vars; rfl)) (fun cdv A outer s H E W hr tk => qx_apart_by B D_is_whole DX_check_net X_TooMuch hr tk) rx_apart_by, PySem.W.mg_of X G a28, k28, b28⟩⟩
  have DX_classes : DefOkX l.prog w K mg base 5 "classes" ["system"] spx_classes := ⟨⟨f29, _, fnX F29 sc_classes (fun us μ Q E h => by unfold spx_classes at h; (repeat (obtain ⟨_, h⟩ := h)) <;> (subst_vars; rfl)) (fun cdv A outer s H E W hr tk => qx_classes B DX_check_system hr tk) rx_classes, PySem.W.mg_of X G a29, k29, b29⟩⟩
  have D_is_sentence : DefOk l.prog w K mg base 26 "is_sentence" ["x"] sp_is_sentence := ok_is_sentence B D_is_whole F30 (PySem.W.mg_of X G a30) k30 b30
  have DX_check_sentence : DefOkX l.prog w K mg base 27 "check_sentence" ["x"] spx_check_sentence := ⟨⟨f31, _, fnX F31 sc_check_sentence (fun us μ Q E h => by unfold spx_check_sentence at h; (repeat (obtain ⟨_, h⟩ := h)) <;> (subst_vars; rfl)) (fun cdv A outer s H E W hr tk => qx_check_sentence B D_is_sentence X_BadGame hr tk) rx_check_sentence, PySem.W.mg_of X G a31, k31, b31⟩⟩
  have DX_depth_of : DefOkX l.prog w K mg base 28 "depth_of" ["sentence"] spx_depth_of := ⟨⟨f32, _, fnX F32 sc_depth_of (fun us μ Q E h => by unfold spx_depth_of at h; (repeat (obtain ⟨_, h⟩ := h)) <;> (subst_vars; rfl)) (fun cdv A outer s H E W hr tk => qx_depth_of B DX_check_sentence hr tk) rx_depth_of, PySem.W.mg_of X G a32, k32, b32⟩⟩
  have D_inner : DefOk l.prog w K mg base 3 "inner" ["x", "wide"] sp_inner := ⟨⟨f33, _, fnD F33 sc_inner (fun us μ Q h => by unfold sp_inner at h; (repeat (obtain ⟨_, h⟩ := h)) <;> (subst_vars; rfl)) (fun cdv A outer s H E hr => q_inner B D_is_below D_is_word ⟨_, _, _, _, PySem.W.mg_of X G g1, hg1, rfl, rfl, (by rw [sizeLine_eq]; exact Nat.le_of_ble_eq_true rfl), (.cons ⟨_, rfl⟩ (.cons ⟨_, rfl⟩ (.cons ⟨_, rfl⟩ (.cons ⟨_, rfl⟩ (.cons ⟨_, rfl⟩ .nil)))))⟩ hr) r_inner, PySem.W.mg_of X G a33, k33, b33⟩⟩
  have D_is_wide : DefOk l.prog w K mg base 4 "is_wide" ["x"] sp_is_wide := ⟨⟨f34, _, fnD F34 sc_is_wide (fun us μ Q h => by unfold sp_is_wide at h; (repeat (obtain ⟨_, h⟩ := h)) <;> (subst_vars; rfl)) (fun cdv A outer s H E hr => q_is_wide B D_inner hr) r_is_wide, PySem.W.mg_of X G a34, k34, b34⟩⟩
  have DX_check_both : DefOkX l.prog w K mg base 5 "check_both" ["system", "formula"] spx_check_both := ⟨⟨f35, _, fnX F35 sc_check_both (fun us μ Q E h => by unfold spx_check_both at h; (repeat (obtain ⟨_, h⟩ := h)) <;> (subst_vars; rfl)) (fun cdv A outer s H E W hr tk => qx_check_both B D_is_wide DX_check_system X_BadGame hr tk) rx_check_both, PySem.W.mg_of X G a35, k35, b35⟩⟩
  have DX_game_of : DefOkX l.prog w K mg base 6 "game_of" ["system", "formula"] spx_game_of := ⟨⟨f36, _, fnX F36 sc_game_of (fun us μ Q E h => by unfold spx_game_of at h; (repeat (obtain ⟨_, h⟩ := h)) <;> (subst_vars; rfl)) (fun cdv A outer s H E W hr tk => qx_game_of B DX_check_both hr tk) rx_game_of, PySem.W.mg_of X G a36, k36, b36⟩⟩
  have D_is_formula : DefOk l.prog w K mg base 4 "is_formula" ["x"] sp_is_formula := ⟨⟨f37, _, fnD F37 sc_is_formula (fun us μ Q h => by unfold sp_is_formula at h; (repeat (obtain ⟨_, h⟩ := h)) <;> (subst_vars; rfl)) (fun cdv A outer s H E hr => q_is_formula B D_inner hr) r_is_formula, PySem.W.mg_of X G a37, k37, b37⟩⟩
  have DX_holds_at : DefOkX l.prog w K mg base 5 "holds_at" ["system", "x", "formula"] spx_holds_at := ⟨⟨f38, _, fnX F38 sc_holds_at (fun us μ Q E h => by unfold spx_holds_at at h; (repeat (obtain ⟨_, h⟩ := h)) <;> (subst_vars; rfl)) (fun cdv A outer s H E W hr tk => qx_holds_at B D_is_formula DX_check_system DX_check_state X_BadGame hr tk) rx_holds_at, PySem.W.mg_of X G a38, k38, b38⟩⟩
  have DX_is_likeness : DefOkX l.prog w K mg base 5 "is_likeness" ["a", "b", "pairs"] spx_is_likeness := ⟨⟨f39, _, fnX F39 sc_is_likeness (fun us μ Q E h => by unfold spx_is_likeness at h; (repeat (obtain ⟨_, h⟩ := h)) <;> (subst_vars; rfl)) (fun cdv A outer s H E W hr tk => qx_is_likeness B DX_check_system hr tk) rx_is_likeness, PySem.W.mg_of X G a39, k39, b39⟩⟩
  have DX_where : DefOkX l.prog w K mg base 6 "where" ["system", "formula"] spx_where := ⟨⟨f40, _, fnX F40 sc_where (fun us μ Q E h => by unfold spx_where at h; (repeat (obtain ⟨_, h⟩ := h)) <;> (subst_vars; rfl)) (fun cdv A outer s H E W hr tk => qx_where B DX_check_both hr tk) rx_where, PySem.W.mg_of X G a40, k40, b40⟩⟩
  exact fnDc l41 c41 sc_law (fun us μ Q h => by unfold sp_law at h; (repeat (obtain ⟨_, h⟩ := h)) <;> (subst_vars; rfl)) (fun A outer s H E hr => q_law B D__law_box D__law_system D__law_turned D__law_formula D__law_sentence D__law_is_system D_is_system D__law_says D__law_is_formula D_is_formula D__law_is_wide D_is_wide D__law_is_sentence D_is_sentence D__law_pick G__law_refusal DX_classes DX_alike DX_is_likeness DX_where DX_holds_at DX_game_of DX_depth_of DX_apart_by TB hT hr) r_law
end K19
open PySem PySem.W PyProof.Rows
set_option maxHeartbeats 0 in
theorem PySem.Challenge.cw_whowins_k19_what_is_no_formula_holds : PySem.Challenge.rw_whowins_k19_what_is_no_formula.Holds := by
  w_on; o_law; k_head; (case hw => w_witness2)
  k_fill
  refine LamX.walk_ofTs (l := PySem.Challenge.rw_whowins_k19_what_is_no_formula) (n := 63) (k := 37) (x := "script") (CX := fun _ => L2.CX0) rfl (by decide) rfl ⟨rfl, by decide, by decide⟩ (fun w h Y => PySem.W.km_in_of Y) ?F (fun _ _ _ _ _ h => h)
  case F =>
    intro w mg fa h Y KX G hmg
    refine' K19.all_mk KX G hmg ?a1 ?l1 ?c1 ?k1 ?a2 ?l2 ?c2 ?k2 ?a3 ?l3 ?c3 ?k3 ?a4 ?l4 ?c4 ?k4 ?a5 ?l5 ?c5 ?k5 ?a6 ?l6 ?c6 ?k6 ?a7 ?l7 ?c7 ?k7 ?a8 ?l8 ?c8 ?k8 ?a9 ?l9 ?c9 ?k9 ?a10 ?l10 ?c10 ?k10 ?a11 ?l11 ?c11 ?k11 ?a12 ?l12 ?c12 ?k12 ?a13 ?l13 ?c13 ?k13 ?a14 ?l14 ?c14 ?k14 ?a15 ?l15 ?c15 ?k15 ?a16 ?l16 ?c16 ?k16 ?a17 ?l17 ?c17 ?k17 ?a18 ?l18 ?c18 ?k18 ?a19 ?l19 ?c19 ?k19 ?a20 ?l20 ?c20 ?k20 ?a21 ?l21 ?c21 ?k21 ?a22 ?l22 ?c22 ?k22 ?a23 ?l23 ?c23 ?k23 ?a24 ?l24 ?c24 ?k24 ?a25 ?l25 ?c25 ?k25 ?a26 ?l26 ?c26 ?k26 ?a27 ?l27 ?c27 ?k27 ?a28 ?l28 ?c28 ?k28 ?a29 ?l29 ?c29 ?k29 ?a30 ?l30 ?c30 ?k30 ?a31 ?l31 ?c31 ?k31 ?a32 ?l32 ?c32 ?k32 ?a33 ?l33 ?c33 ?k33 ?a34 ?l34 ?c34 ?k34 ?a35 ?l35 ?c35 ?k35 ?a36 ?l36 ?c36 ?k36 ?a37 ?l37 ?c37 ?k37 ?a38 ?l38 ?c38 ?k38 ?a39 ?l39 ?c39 ?k39 ?a40 ?l40 ?c40 ?k40 ?a41 ?l41 ?c41 ?k41 ?g1 ?hg1 ?g2 ?z1 ?z2 ?z3 ?z4 ?z5 ?z6 ?z7 ?z8 ?z9 ?z10 ?z11 ?e1_BadGame ?e4_BadGame ?e5_BadGame ?e6_BadGame ?e7_BadGame ?e2_BadGame ?e3_BadGame ?e1_BadKind ?e4_BadKind ?e5_BadKind ?e6_BadKind ?e7_BadKind ?e1_BadPlace ?e4_BadPlace ?e5_BadPlace ?e6_BadPlace ?e7_BadPlace ?e2_BadPlace ?e3_BadPlace ?e1_TooMuch ?e4_TooMuch ?e5_TooMuch ?e6_TooMuch ?e7_TooMuch ?e2_TooMuch ?e3_TooMuch ?n_BadKind_BadGame ?n_BadPlace_BadGame ?n_BadPlace_BadKind ?n_TooMuch_BadGame ?n_TooMuch_BadKind ?n_TooMuch_BadPlace ?hPT ?hT ?hcT ?hnT
    (case a1 => k_is); (case l1 => k_is); (case c1 => k_is); (case k1 => k_is)
    (case a2 => k_is); (case l2 => k_is); (case c2 => k_is); (case k2 => k_is)
    (case a3 => k_is); (case l3 => k_is); (case c3 => k_is); (case k3 => k_is)
    (case a4 => k_is); (case l4 => k_is); (case c4 => k_is); (case k4 => k_is)
    (case a5 => k_is); (case l5 => k_is); (case c5 => k_is); (case k5 => k_is)
    (case a6 => k_is); (case l6 => k_is); (case c6 => k_is); (case k6 => k_is)
    (case a7 => k_is); (case l7 => k_is); (case c7 => k_is); (case k7 => k_is)
    (case a8 => k_is); (case l8 => k_is); (case c8 => k_is); (case k8 => k_is)
    (case a9 => k_is); (case l9 => k_is); (case c9 => k_is); (case k9 => k_is)
    (case a10 => k_is); (case l10 => k_is); (case c10 => k_is); (case k10 => k_is)
    (case a11 => k_is); (case l11 => k_is); (case c11 => k_is); (case k11 => k_is)
    (case a12 => k_is); (case l12 => k_is); (case c12 => k_is); (case k12 => k_is)
    (case a13 => k_is); (case l13 => k_is); (case c13 => k_is); (case k13 => k_is)
    (case a14 => k_is); (case l14 => k_is); (case c14 => k_is); (case k14 => k_is)
    (case a15 => k_is); (case l15 => k_is); (case c15 => k_is); (case k15 => k_is)
    (case a16 => k_is); (case l16 => k_is); (case c16 => k_is); (case k16 => k_is)
    (case a17 => k_is); (case l17 => k_is); (case c17 => k_is); (case k17 => k_is)
    (case a18 => k_is); (case l18 => k_is); (case c18 => k_is); (case k18 => k_is)
    (case a19 => k_is); (case l19 => k_is); (case c19 => k_is); (case k19 => k_is)
    (case a20 => k_is); (case l20 => k_is); (case c20 => k_is); (case k20 => k_is)
    (case a21 => k_is); (case l21 => k_is); (case c21 => k_is); (case k21 => k_is)
    (case a22 => k_is); (case l22 => k_is); (case c22 => k_is); (case k22 => k_is)
    (case a23 => k_is); (case l23 => k_is); (case c23 => k_is); (case k23 => k_is)
    (case a24 => k_is); (case l24 => k_is); (case c24 => k_is); (case k24 => k_is)
    (case a25 => k_is); (case l25 => k_is); (case c25 => k_is); (case k25 => k_is)
    (case a26 => k_is); (case l26 => k_is); (case c26 => k_is); (case k26 => k_is)
    (case a27 => k_is); (case l27 => k_is); (case c27 => k_is); (case k27 => k_is)
    (case a28 => k_is); (case l28 => k_is); (case c28 => k_is); (case k28 => k_is)
    (case a29 => k_is); (case l29 => k_is); (case c29 => k_is); (case k29 => k_is)
    (case a30 => k_is); (case l30 => k_is); (case c30 => k_is); (case k30 => k_is)
    (case a31 => k_is); (case l31 => k_is); (case c31 => k_is); (case k31 => k_is)
    (case a32 => k_is); (case l32 => k_is); (case c32 => k_is); (case k32 => k_is)
    (case a33 => k_is); (case l33 => k_is); (case c33 => k_is); (case k33 => k_is)
    (case a34 => k_is); (case l34 => k_is); (case c34 => k_is); (case k34 => k_is)
    (case a35 => k_is); (case l35 => k_is); (case c35 => k_is); (case k35 => k_is)
    (case a36 => k_is); (case l36 => k_is); (case c36 => k_is); (case k36 => k_is)
    (case a37 => k_is); (case l37 => k_is); (case c37 => k_is); (case k37 => k_is)
    (case a38 => k_is); (case l38 => k_is); (case c38 => k_is); (case k38 => k_is)
    (case a39 => k_is); (case l39 => k_is); (case c39 => k_is); (case k39 => k_is)
    (case a40 => k_is); (case l40 => k_is); (case c40 => k_is); (case k40 => k_is)
    (case a41 => k_is); (case l41 => k_is); (case c41 => k_is); (case k41 => k_is)
    (case g1 => k_is); (case hg1 => k_is); (case g2 => k_is); (case z1 => k_is)
    (case z2 => k_is); (case z3 => k_is); (case z4 => k_is); (case z5 => k_is)
    (case z6 => k_is); (case z7 => k_is); (case z8 => k_is); (case z9 => k_is)
    (case z10 => k_is); (case z11 => k_is); (case e1_BadGame => k_is); (case e4_BadGame => k_is)
    (case e5_BadGame => k_is); (case e6_BadGame => k_is); (case e7_BadGame => k_is); (case e2_BadGame => k_is)
    (case e3_BadGame => k_exc); (case e1_BadKind => k_is); (case e4_BadKind => k_is); (case e5_BadKind => k_is)
    (case e6_BadKind => k_is); (case e7_BadKind => k_is); (case e1_BadPlace => k_is); (case e4_BadPlace => k_is)
    (case e5_BadPlace => k_is); (case e6_BadPlace => k_is); (case e7_BadPlace => k_is); (case e2_BadPlace => k_is)
    (case e3_BadPlace => k_exc); (case e1_TooMuch => k_is); (case e4_TooMuch => k_is); (case e5_TooMuch => k_is)
    (case e6_TooMuch => k_is); (case e7_TooMuch => k_is); (case e2_TooMuch => k_is); (case e3_TooMuch => k_exc)
    (case n_BadKind_BadGame => k_is); (case n_BadPlace_BadGame => k_is); (case n_BadPlace_BadKind => k_is); (case n_TooMuch_BadGame => k_is)
    (case n_TooMuch_BadKind => k_is); (case n_TooMuch_BadPlace => k_is); (case hPT => exact List.forall_mem_cons.mp (PySem.W.km_tabs_of Y) |>.1); (case hT => kernel_rfl)
    (case hcT => kernel_rfl); (case hnT => kernel_rfl)
