import PyProof.Rows.All
import Wide.All
import OpenK.AllK
import Wide.FinOn
import HandS.ForMost
import HandS.ForExc
import HandS.Wide
import HandS.Deep
import HandS.TupAny
import HandS.Style
import HandS.More
import HandS.Zip
import HandS.StrMore
import HandS.IsInst
import HandS.Small
import HandS.Conv
import HandS.TupLe
import HandS.TupSets
import HandS.Iter
import PySem.Challenge.RW_eachsome_k67_whole_quantifiers_put_ahead
set_option Elab.async false
set_option maxRecDepth 100000
set_option linter.all false
/-! L3: a layer of plain data over HandS. A value is a tree (D); what may change stands in a store (Store); the heap is hidden behind both. -/
namespace L3
open PySem L2

/-- what of a context the readings lean on -/
structure Sg where
  K : PySem.W.Frag
  w : World
abbrev sg (X : Cx) : Sg := ⟨X.K, X.w⟩
/-! ### data -/
inductive D where
  | non | bl (b : Bool) | int (i : Int) | str (s : Str) | tup (ds : List D) | lst (ds : List D) | sq (ds : List D) | ptr (a : Addr) | ty (n : String)

mutual
/-- the value v stands for the tree d in the frozen heap F -/
inductive Rp (K : PySem.W.Frag) (F : Hp) : V → D → Prop
  | non : Rp K F .non .non
  | bl (b : Bool) : Rp K F (.bl b) (.bl b)
  | int (i : Int) : Rp K F (.int i) (.int i)
  | str (s : Str) : Rp K F (.str s) (.str s)
  | tup {a : Addr} {vs : List V} {ds : List D} : SqT K F a vs → RpL K F vs ds → Rp K F (.ref a) (.tup ds)
  | lst {a : Addr} {vs : List V} {ds : List D} : F a = some (.lst vs) → RpL K F vs ds → Rp K F (.ref a) (.lst ds)
  | sq {a : Addr} {vs : List V} {ds : List D} : SqL K F a vs → RpL K F vs ds → Rp K F (.ref a) (.sq ds)
  | ptr (a : Addr) : Rp K F (.ref a) (.ptr a)
  | ty (n : String) : Rp K F (.ty n) (.ty n)
inductive RpL (K : PySem.W.Frag) (F : Hp) : List V → List D → Prop
  | nil : RpL K F [] []
  | cons {v : V} {vs : List V} {d : D} {ds : List D} : Rp K F v d → RpL K F vs ds → RpL K F (v :: vs) (d :: ds)
end

theorem same_rd {H H' : Hp} {a : Addr} {u : HO} (e : Same H H') (h : Rd H a u) : Rd H' a u := by
  rcases h with h | ⟨o, h⟩
  · exact .inl (e _ _ h)
  · exact .inr ⟨o, e _ _ h⟩
theorem same_l {K : PySem.W.Frag} {H H' : Hp} {a : Addr} {xs : List V} (e : Same H H') (h : SqL K H a xs) : SqL K H' a xs := by
  rcases h with h | h
  · exact .inl (same_rd e h)
  · exact .inr h
theorem same_t {K : PySem.W.Frag} {H H' : Hp} {a : Addr} {xs : List V} (e : Same H H') (h : SqT K H a xs) : SqT K H' a xs := by
  rcases h with h | h
  · exact .inl (same_rd e h)
  · exact .inr h
theorem same_refl (H : Hp) : Same H H := fun _ _ h => h
theorem same_tr {H H1 H2 : Hp} (a : Same H H1) (b : Same H1 H2) : Same H H2 := fun x o h => b x o (a x o h)
theorem same_upd {H : Hp} {p : Addr} {o : HO} (h : H p = none) : Same H (upd H p o) := fun a u e => by
  rw [upd_ne (ne_of_none e h)]
  exact e

section
variable {K : PySem.W.Frag} {F F' : Hp}
mutual
theorem Rp.mono (e : Same F F') : ∀ {v : V} {d : D}, Rp K F v d → Rp K F' v d
  | _, _, .non => .non
  | _, _, .bl b => .bl b
  | _, _, .int i => .int i
  | _, _, .str s => .str s
  | _, _, .tup h t => .tup (same_t e h) (RpL.mono e t)
  | _, _, .lst h t => .lst (e _ _ h) (RpL.mono e t)
  | _, _, .sq h t => .sq (same_l e h) (RpL.mono e t)
  | _, _, .ptr a => .ptr a
  | _, _, .ty n => .ty n
theorem RpL.mono (e : Same F F') : ∀ {vs : List V} {ds : List D}, RpL K F vs ds → RpL K F' vs ds
  | _, _, .nil => .nil
  | _, _, .cons h t => .cons (Rp.mono e h) (RpL.mono e t)
end
theorem RpL.length : ∀ {vs : List V} {ds : List D}, RpL K F vs ds → vs.length = ds.length
  | _, _, .nil => rfl
  | _, _, .cons _ t => by rw [List.length_cons, List.length_cons, RpL.length t]
theorem RpL.get : ∀ {vs : List V} {ds : List D} {i : Nat} {d : D}, RpL K F vs ds → ds[i]? = some d → ∃ v, vs[i]? = some v ∧ Rp K F v d
  | _, _, _, _, .nil, e => by simp at e
  | _, _, 0, _, .cons h _, e => by
    simp at e
    subst e
    exact ⟨_, rfl, h⟩
  | _, _, i + 1, d, .cons _ t, e => by
    obtain ⟨v, h1, h2⟩ := RpL.get (i := i) (d := d) t (by simpa using e)
    exact ⟨v, by simpa using h1, h2⟩
theorem RpL.get' : ∀ {vs : List V} {ds : List D} {i : Nat} {v : V}, RpL K F vs ds → vs[i]? = some v → ∃ d, ds[i]? = some d ∧ Rp K F v d
  | _, _, _, _, .nil, e => by simp at e
  | _, _, 0, _, .cons h _, e => by
    simp at e
    subst e
    exact ⟨_, rfl, h⟩
  | _, _, i + 1, v, .cons _ t, e => by
    obtain ⟨d, h1, h2⟩ := RpL.get' (i := i) (v := v) t (by simpa using e)
    exact ⟨d, by simpa using h1, h2⟩
theorem RpL.append : ∀ {xs ys : List V} {ds es : List D}, RpL K F xs ds → RpL K F ys es → RpL K F (xs ++ ys) (ds ++ es)
  | _, _, _, _, .nil, t => t
  | _, _, _, _, .cons h r, t => .cons h (RpL.append r t)
theorem RpL.take : ∀ {xs : List V} {ds : List D} (n : Nat), RpL K F xs ds → RpL K F (xs.take n) (ds.take n)
  | _, _, 0, _ => .nil
  | _, _, _ + 1, .nil => .nil
  | _, _, n + 1, .cons h t => .cons h (RpL.take n t)
theorem RpL.drop : ∀ {xs : List V} {ds : List D} (n : Nat), RpL K F xs ds → RpL K F (xs.drop n) (ds.drop n)
  | _, _, 0, t => t
  | _, _, _ + 1, .nil => .nil
  | _, _, n + 1, .cons _ t => RpL.drop n t
theorem RpL.set {v : V} {d : D} (h : Rp K F v d) : ∀ {xs : List V} {ds : List D} (i : Nat), RpL K F xs ds → RpL K F (xs.set i v) (ds.set i d)
  | _, _, _, .nil => .nil
  | _, _, 0, .cons _ t => .cons h t
  | _, _, i + 1, .cons q t => .cons q (RpL.set h i t)
theorem RpL.eraseIdx : ∀ {xs : List V} {ds : List D} (i : Nat), RpL K F xs ds → RpL K F (xs.eraseIdx i) (ds.eraseIdx i)
  | _, _, _, .nil => .nil
  | _, _, 0, .cons _ t => t
  | _, _, i + 1, .cons q t => .cons q (RpL.eraseIdx i t)
theorem RpL.reverse : ∀ {xs : List V} {ds : List D}, RpL K F xs ds → RpL K F xs.reverse ds.reverse
  | _, _, .nil => .nil
  | _, _, .cons q t => by
    rw [List.reverse_cons, List.reverse_cons]
    exact RpL.append (RpL.reverse t) (.cons q .nil)
theorem RpL.one {v : V} {d : D} (h : Rp K F v d) : RpL K F [v] [d] := .cons h .nil
/-- a value of a tree that is not an object is one alone -/
theorem Rp.int_inv {v : V} {i : Int} (h : Rp K F v (.int i)) : v = .int i := by cases h; rfl
theorem Rp.str_inv {v : V} {s : Str} (h : Rp K F v (.str s)) : v = .str s := by cases h; rfl
theorem Rp.bl_inv {v : V} {b : Bool} (h : Rp K F v (.bl b)) : v = .bl b := by cases h; rfl
theorem Rp.non_inv {v : V} (h : Rp K F v .non) : v = .non := by cases h; rfl
theorem Rp.ty_inv {v : V} {n : String} (h : Rp K F v (.ty n)) : v = .ty n := by cases h; rfl
theorem Rp.ptr_inv {v : V} {a : Addr} (h : Rp K F v (.ptr a)) : v = .ref a := by cases h; rfl
theorem Rp.tup_inv {v : V} {ds : List D} (h : Rp K F v (.tup ds)) : ∃ a vs, v = .ref a ∧ SqT K F a vs ∧ RpL K F vs ds := by
  cases h with
  | tup h t => exact ⟨_, _, rfl, h, t⟩
theorem Rp.lst_inv {v : V} {ds : List D} (h : Rp K F v (.lst ds)) : ∃ a vs, v = .ref a ∧ F a = some (.lst vs) ∧ RpL K F vs ds := by
  cases h with
  | lst h t => exact ⟨_, _, rfl, h, t⟩
theorem Rp.sq_inv {v : V} {ds : List D} (h : Rp K F v (.sq ds)) : ∃ a vs, v = .ref a ∧ SqL K F a vs ∧ RpL K F vs ds := by
  cases h with
  | sq h t => exact ⟨_, _, rfl, h, t⟩
theorem RpL.ints : ∀ {vs : List V} {ns : List Int}, RpL K F vs (ns.map D.int) → vs = ns.map V.int
  | _, [], .nil => rfl
  | _, n :: ns, .cons h t => by rw [h.int_inv, RpL.ints t, List.map_cons]
theorem RpL.bls : ∀ {vs : List V} {bs : List Bool}, RpL K F vs (bs.map D.bl) → vs = bs.map V.bl
  | _, [], .nil => rfl
  | _, n :: ns, .cons h t => by rw [h.bl_inv, RpL.bls t, List.map_cons]
theorem RpL.strs : ∀ {vs : List V} {bs : List Str}, RpL K F vs (bs.map D.str) → vs = bs.map V.str
  | _, [], .nil => rfl
  | _, n :: ns, .cons h t => by rw [h.str_inv, RpL.strs t, List.map_cons]
theorem RpL.ints' {ns : List Int} : RpL K F (ns.map V.int) (ns.map D.int) := by
  induction ns with
  | nil => exact .nil
  | cons n ns ih => exact .cons (.int n) ih
theorem RpL.strs' {ns : List Str} : RpL K F (ns.map V.str) (ns.map D.str) := by
  induction ns with
  | nil => exact .nil
  | cons n ns ih => exact .cons (.str n) ih
end

/-! ### the store: what may change -/
inductive Cell where
  | lst (ds : List D) | dK (kvs : List (Key × D)) | dT (kvs : List (List Key × D)) | ins (C dx : Addr) (fs : List (Str × D)) | dL (u : HO) (kvs : List (Key × D))
abbrev Store := Addr → Option Cell
def sup (ω : Store) (a : Addr) (c : Cell) : Store := fun b => if b = a then some c else ω b
theorem sup_same {ω : Store} {a : Addr} {c : Cell} : sup ω a c a = some c := if_pos rfl
theorem sup_ne {ω : Store} {a b : Addr} {c : Cell} (h : b ≠ a) : sup ω a c b = ω b := if_neg h
theorem sup_sup {ω : Store} {a : Addr} {c e : Cell} : sup (sup ω a c) a e = sup ω a e := by
  funext b
  unfold sup
  split <;> rfl
/-- entries alike -/
def KvR {κ : Type} (K : PySem.W.Frag) (F : Hp) : List (κ × V) → List (κ × D) → Prop := Paired fun p q => p.1 = q.1 ∧ Rp K F p.2 q.2
inductive CellOk (K : PySem.W.Frag) (F : Hp) : Cell → HO → Prop
  | lst {ds : List D} {vs : List V} : RpL K F vs ds → CellOk K F (.lst ds) (.lst vs)
  | dK {kvs : List (Key × D)} {kws : List (Key × V)} : KvR K F kws kvs → CellOk K F (.dK kvs) (.dK kws)
  | dT {kvs : List (List Key × D)} {kws : List (List Key × V)} : KvR K F kws kvs → CellOk K F (.dT kvs) (.dT kws)
  | ins {C dx : Addr} {fs : List (Str × D)} {gs : List (Str × V)} : KvR K F gs fs → CellOk K F (.ins C dx fs) (.ins C dx gs)
  | dL {o : Obj} {kvs : List (Key × D)} {kws : List (Key × V)} : KvR K F kws kvs → CellOk K F (.dL (.frz o (.dK kws)) kvs) (.frz o (.dK kws))
theorem KvR.mono {κ : Type} {K : PySem.W.Frag} {F F' : Hp} (e : Same F F') : ∀ {a : List (κ × V)} {b : List (κ × D)}, KvR K F a b → KvR K F' a b
  | _, _, .nil => .nil
  | _, _, .cons h t => .cons ⟨h.1, h.2.mono e⟩ (KvR.mono e t)
theorem CellOk.mono {K : PySem.W.Frag} {F F' : Hp} (e : Same F F') {c : Cell} {o : HO} (h : CellOk K F c o) : CellOk K F' c o := by
  cases h with
  | lst h => exact .lst (RpL.mono e h)
  | dK h => exact .dK (KvR.mono e h)
  | dT h => exact .dT (KvR.mono e h)
  | ins h => exact .ins (KvR.mono e h)
  | dL h => exact .dL (KvR.mono e h)

/-- the heap H holds the frozen part F and the store ω -/
structure Hd (K : PySem.W.Frag) (F H : Hp) (ω : Store) : Prop where
  sub : ∀ a o, F a = some o → H a = some o
  cell : ∀ a c, ω a = some c → F a = none ∧ ∃ o, H a = some o ∧ CellOk K F c o
section
variable {K : PySem.W.Frag} {F F' H : Hp} {ω ω' : Store} {p : Addr}
theorem Hd.fF (h : Hd K F H ω) (hp : H p = none) : F p = none := by
  cases e : F p with
  | none => rfl
  | some o =>
    rw [h.sub _ _ e] at hp
    cases hp
theorem Hd.fω (h : Hd K F H ω) (hp : H p = none) : ω p = none := by
  cases e : ω p with
  | none => rfl
  | some c =>
    obtain ⟨_, o, e2, _⟩ := h.cell _ _ e
    rw [e2] at hp
    cases hp
theorem Hd.same (h : Hd K F H ω) : Same F H := fun a o e => h.sub a o e
theorem Hd.drop (h : Hd K F H ω) (w : ∀ a c, ω' a = some c → ω a = some c) : Hd K F H ω' := ⟨h.sub, fun a c e => h.cell a c (w a c e)⟩
/-- a new frozen object -/
theorem Hd.newF (h : Hd K F H ω) (hp : H p = none) (o : HO) : Hd K (upd F p o) (upd H p o) ω ∧ Same F (upd F p o) := by
  have s := same_upd (o := o) (h.fF hp)
  refine ⟨⟨fun a u e => ?_, fun a c e => ?_⟩, s⟩
  · by_cases ha : a = p
    · subst ha
      rw [upd_same] at e ⊢
      exact e
    · rw [upd_ne ha] at e ⊢
      exact h.sub _ _ e
  · obtain ⟨f, u, e2, ok⟩ := h.cell _ _ e
    have ha : a ≠ p := ne_of_none e2 hp
    rw [upd_ne ha]
    refine ⟨f, u, ?_, CellOk.mono s ok⟩
    rw [upd_ne ha]
    exact e2
/-- a new object that may change -/
theorem Hd.newC (h : Hd K F H ω) (hp : H p = none) {o : HO} {c : Cell} (ok : CellOk K F c o) : Hd K F (upd H p o) (sup ω p c) := by
  have fp := h.fF hp
  refine ⟨fun a u e => ?_, fun a k e => ?_⟩
  · rw [upd_ne (ne_of_none e fp)]
    exact h.sub _ _ e
  · by_cases ha : a = p
    · subst ha
      rw [sup_same] at e
      cases e
      exact ⟨fp, o, upd_same, ok⟩
    · rw [sup_ne ha] at e
      obtain ⟨f, u, e2, q⟩ := h.cell _ _ e
      exact ⟨f, u, by rw [upd_ne ha]; exact e2, q⟩
/-- a cell is changed -/
theorem Hd.put (h : Hd K F H ω) {c0 c : Cell} (hp : ω p = some c0) {o : HO} (ok : CellOk K F c o) : Hd K F (upd H p o) (sup ω p c) := by
  obtain ⟨fp, _⟩ := h.cell _ _ hp
  refine ⟨fun a u e => ?_, fun a k e => ?_⟩
  · rw [upd_ne (ne_of_none e fp)]
    exact h.sub _ _ e
  · by_cases ha : a = p
    · subst ha
      rw [sup_same] at e
      cases e
      exact ⟨fp, o, upd_same, ok⟩
    · rw [sup_ne ha] at e
      obtain ⟨f, u, e2, q⟩ := h.cell _ _ e
      exact ⟨f, u, by rw [upd_ne ha]; exact e2, q⟩
/-- H changes at new places alone -/
theorem Hd.ext (h : Hd K F H ω) {H' : Hp} (e : Same H H') : Hd K F H' ω := ⟨fun a o q => e _ _ (h.sub a o q), fun a c q => let ⟨f, o, e2, ok⟩ := h.cell a c q; ⟨f, o, e _ _ e2, ok⟩⟩
/-- a cell is frozen: a list -/
theorem Hd.freeze (h : Hd K F H ω) {ds : List D} (hp : ω p = some (.lst ds)) : ∃ F', Same F F' ∧ Hd K F' H (fun a => if a = p then none else ω a) ∧ Rp K F' (.ref p) (.lst ds) := by
  obtain ⟨fp, o, e, ok⟩ := h.cell _ _ hp
  cases ok with
  | lst ok =>
    rename_i vs
    have s := same_upd (o := .lst vs) fp
    refine ⟨upd F p (.lst vs), s, ⟨fun a u q => ?_, fun a c q => ?_⟩, .lst upd_same (RpL.mono s ok)⟩
    · by_cases ha : a = p
      · subst ha
        rw [upd_same] at q
        cases q
        exact e
      · rw [upd_ne ha] at q
        exact h.sub _ _ q
    · by_cases ha : a = p
      · rw [if_pos ha] at q
        cases q
      · rw [if_neg ha] at q
        obtain ⟨f, u, e2, ok2⟩ := h.cell _ _ q
        exact ⟨by rw [upd_ne ha]; exact f, u, e2, CellOk.mono s ok2⟩
end

/-! ### slots -/
abbrev Rho := List (Option D)
def Rn (K : PySem.W.Frag) (F : Hp) (σ : L2.St) (ρ : Rho) : Prop := σ.length = ρ.length ∧ ∀ (i : Nat) (d : D), ρ[i]? = some (some d) → ∃ v, σ[i]? = some (some v) ∧ Rp K F v d
section
variable {K : PySem.W.Frag} {F F' H : Hp} {σ : L2.St} {ρ : Rho}
theorem Rn.mono (h : Rn K F σ ρ) (e : Same F F') : Rn K F' σ ρ := ⟨h.1, fun i d q => let ⟨v, a, b⟩ := h.2 i d q; ⟨v, a, b.mono e⟩⟩
theorem Rn.set (h : Rn K F σ ρ) {v : V} {d : D} (r : Rp K F v d) (i : Nat) : Rn K F (σ.set i (some v)) (ρ.set i (some d)) := by
  refine ⟨by rw [List.length_set, List.length_set, h.1], fun j e q => ?_⟩
  by_cases hj : i = j
  · subst hj
    by_cases hl : i < ρ.length
    · rw [List.getElem?_set_self hl] at q
      cases q
      exact ⟨v, by rw [List.getElem?_set_self (by rw [h.1]; exact hl)], r⟩
    · rw [List.getElem?_eq_none (by rw [List.length_set]; omega)] at q
      cases q
  · rw [List.getElem?_set_ne hj] at q ⊢
    exact h.2 j e q
theorem Rn.wipe1 (h : Rn K F σ ρ) (i : Nat) : Rn K F (σ.set i none) (ρ.set i none) := by
  refine ⟨by rw [List.length_set, List.length_set, h.1], fun j e q => ?_⟩
  by_cases hj : i = j
  · subst hj
    by_cases hl : i < ρ.length
    · rw [List.getElem?_set_self hl] at q
      cases q
    · rw [List.getElem?_eq_none (by rw [List.length_set]; omega)] at q
      cases q
  · rw [List.getElem?_set_ne hj] at q ⊢
    exact h.2 j e q
def wipeD (ρ : Rho) : List Nat → Rho
  | [] => ρ
  | v :: vs => (wipeD ρ vs).set v none
theorem Rn.wipe (h : Rn K F σ ρ) : ∀ vs : List Nat, Rn K F (wipe σ vs) (wipeD ρ vs)
  | [] => h
  | v :: vs => (Rn.wipe h vs).wipe1 v
theorem Rn.less {ρ' : Rho} (h : Rn K F σ ρ) (hl : ρ'.length = ρ.length) (w : ∀ (i : Nat) (d : D), ρ'[i]? = some (some d) → ρ[i]? = some (some d)) : Rn K F σ ρ' := ⟨by rw [h.1, hl], fun i d q => h.2 i d (w i d q)⟩
end

/-! ### errors -/
/-- an error: its class, its own attributes (if it has a dict of its own) -/
structure Exn where
  cls : Value
  fs : Option (List (Str × D))
abbrev KV := D → Store → Prop
abbrev KX := Exn → Store → Prop
def ExnOk (K : PySem.W.Frag) (F H : Hp) (od : Option Addr) : Option (List (Str × D)) → Prop
  | none => od = none
  | some fs => ∃ d gs, od = some d ∧ F d = some (.xd gs) ∧ KvR K F gs fs
def LX (K : PySem.W.Frag) (F : Hp) (E : XK) (x : KX) : Prop := ∀ (F' H' : Hp) (ω' : Store) (e : Exn) (od : Option Addr), x e ω' → Same F F' → Hd K F' H' ω' → ExnOk K F' H' od e.fs → E e.cls od H'
theorem LX.mono {K : PySem.W.Frag} {F F' : Hp} {E : XK} {x : KX} (h : LX K F E x) (s : Same F F') : LX K F' E x := fun F2 H2 ω2 e od q s2 => h F2 H2 ω2 e od q (same_tr s s2)

/-! ### readings over data -/
abbrev LTE := Rho → Store → KX → KV → Prop
abbrev LTA := Rho → Store → KX → (List D → Store → Prop) → Prop
abbrev LTT := Rho → Store → KX → (Bool → Store → Prop) → Prop
structure LEnds where
  nx : Rho → Store → Prop
  rt : KV
  xc : KX
  bk : Rho → Store → Prop
  ct : Rho → Store → Prop
abbrev LTS := LEnds → Rho → Store → Prop

/-- what is wanted of a value behind -/
def WV (K : PySem.W.Frag) (F : Hp) (k : KV) (Q : VK) : Prop := ∀ v d F' H' ω', k d ω' → Same F F' → Hd K F' H' ω' → Rp K F' v d → Q v H'
def WA (K : PySem.W.Frag) (F : Hp) (k : List D → Store → Prop) (Q : List V → Hp → Prop) : Prop := ∀ vs ds F' H' ω', k ds ω' → Same F F' → Hd K F' H' ω' → RpL K F' vs ds → Q vs H'
def WT (K : PySem.W.Frag) (F : Hp) (k : Bool → Store → Prop) (Q : Bool → Hp → Prop) : Prop := ∀ b F' H' ω', k b ω' → Same F F' → Hd K F' H' ω' → Q b H'
def WN (K : PySem.W.Frag) (F : Hp) (k : Rho → Store → Prop) (Q : L2.St → Hp → Prop) : Prop := ∀ σ' ρ' F' H' ω', k ρ' ω' → Same F F' → Hd K F' H' ω' → Rn K F' σ' ρ' → Q σ' H'
theorem WV.mono {K : PySem.W.Frag} {F F' : Hp} {k : KV} {Q : VK} (h : WV K F k Q) (s : Same F F') : WV K F' k Q := fun v d F2 H2 ω2 q s2 => h v d F2 H2 ω2 q (same_tr s s2)
theorem WN.mono {K : PySem.W.Frag} {F F' : Hp} {k : Rho → Store → Prop} {Q : L2.St → Hp → Prop} (h : WN K F k Q) (s : Same F F') : WN K F' k Q := fun v d F2 H2 ω2 q s2 => h v d F2 H2 ω2 q (same_tr s s2)
theorem WT.mono {K : PySem.W.Frag} {F F' : Hp} {k : Bool → Store → Prop} {Q : Bool → Hp → Prop} (h : WT K F k Q) (s : Same F F') : WT K F' k Q := fun b F2 H2 ω2 q s2 => h b F2 H2 ω2 q (same_tr s s2)
theorem WA.mono {K : PySem.W.Frag} {F F' : Hp} {k : List D → Store → Prop} {Q : List V → Hp → Prop} (h : WA K F k Q) (s : Same F F') : WA K F' k Q := fun v d F2 H2 ω2 q s2 => h v d F2 H2 ω2 q (same_tr s s2)

def LfE (K : PySem.W.Frag) (E : XK) (te : TE) (t : LTE) : Prop := ∀ (F H : Hp) (σ : L2.St) (ρ : Rho) (ω : Store) (x : KX) (k : KV) (Q : VK), Hd K F H ω → Rn K F σ ρ → LX K F E x → t ρ ω x k → WV K F k Q → te σ H Q
def LfA (K : PySem.W.Frag) (E : XK) (te : TA) (t : LTA) : Prop := ∀ (F H : Hp) (σ : L2.St) (ρ : Rho) (ω : Store) (x : KX) (k : List D → Store → Prop) (Q : List V → Hp → Prop), Hd K F H ω → Rn K F σ ρ → LX K F E x → t ρ ω x k → WA K F k Q → te σ H Q
def LfT (K : PySem.W.Frag) (E : XK) (te : TT) (t : LTT) : Prop := ∀ (F H : Hp) (σ : L2.St) (ρ : Rho) (ω : Store) (x : KX) (k : Bool → Store → Prop) (Q : Bool → Hp → Prop), Hd K F H ω → Rn K F σ ρ → LX K F E x → t ρ ω x k → WT K F k Q → te σ H Q
structure WS (K : PySem.W.Frag) (F : Hp) (E : XK) (L : LEnds) (D : Ends) : Prop where
  nx : WN K F L.nx D.nx
  rt : WV K F L.rt D.rt
  xc : LX K F E L.xc
  bk : WN K F L.bk D.bk
  ct : WN K F L.ct D.ct
theorem WS.mono {K : PySem.W.Frag} {F F' : Hp} {E : XK} {L : LEnds} {D : Ends} (h : WS K F E L D) (s : Same F F') : WS K F' E L D := ⟨h.nx.mono s, h.rt.mono s, h.xc.mono s, h.bk.mono s, h.ct.mono s⟩
def LfS (K : PySem.W.Frag) (E : XK) (ts : TS) (t : LTS) : Prop := ∀ (F H : Hp) (σ : L2.St) (ρ : Rho) (ω : Store) (L : LEnds) (D : Ends), Hd K F H ω → Rn K F σ ρ → t L ρ ω → WS K F E L D → ts D σ H

/-- an expression, an argument list, a test, a statement, a block: its reading in HandS and the one over data -/
structure XE (X : Cx) (E : XK) (e : Expr) (te : TE) (t : LTE) : Prop where
  pe : PE X e te
  lf : LfE X.K E te t
structure XA (X : Cx) (E : XK) (es : List Expr) (te : TA) (t : LTA) : Prop where
  pe : PA X es te
  lf : LfA X.K E te t
structure XT (X : Cx) (E : XK) (e : Expr) (te : TT) (t : LTT) : Prop where
  pe : PT X e te
  lf : LfT X.K E te t
structure XW (X : Cx) (E : XK) (e : Expr) (te : TT) (t : LTT) : Prop where
  pe : PW X e te
  lf : LfT X.K E te t
structure XS (X : Cx) (E : XK) (st : Stmt) (ts : TS) (t : LTS) : Prop where
  pe : PS X st ts
  lf : LfS X.K E ts t
structure XSs (X : Cx) (E : XK) (st : List Stmt) (ts : TS) (t : LTS) : Prop where
  pe : PSs X st ts
  lf : LfS X.K E ts t
end L3
/-! L3b: expressions. -/
namespace L3
open PySem L2
section
variable {K : PySem.W.Frag} {E : XK} {F H : Hp} {σ : L2.St} {ρ : Rho} {ω : Store}

theorem WV.here {k : KV} {Q : VK} (h : WV K F k Q) {v : V} {d : D} {H : Hp} {ω : Store} (q : k d ω) (hd : Hd K F H ω) (r : Rp K F v d) : Q v H := h v d F H ω q (same_refl F) hd r

/-! ### names, constants -/
def dVar (i : Nat) : LTE := fun ρ ω _ k => ∃ d, ρ[i]? = some (some d) ∧ k d ω
def dC (d : D) : LTE := fun _ ω _ k => k d ω
theorem lf_var {i : Nat} : LfE K E (tVar i) (dVar i) := fun F H σ ρ ω x k Q hd hr _ ⟨d, e, q⟩ w => let ⟨v, e2, r⟩ := hr.2 i d e; ⟨v, e2, w.here q hd r⟩
/-- a value that stands for a tree whatever is frozen -/
def Cst (K : PySem.W.Frag) (v : V) (d : D) : Prop := ∀ F, Rp K F v d
theorem Cst.of {v : V} {d : D} (h : Rp K (fun _ => none) v d) : Cst K v d := fun F => h.mono fun a o (e : (none : Option HO) = some o) => by cases e
theorem lf_c {v : V} {d : D} (h : Cst K v d) : LfE K E (tC v) (dC d) := fun F H σ ρ ω x k Q hd hr _ q w => w.here q hd (h F)

/-! ### two values, one value, some values -/
abbrev S2 := D → D → Store → KX → KV → Prop
abbrev S1 := D → Store → KX → KV → Prop
abbrev SN := List D → Store → KX → KV → Prop
def dOp (s : S2) (ta tb : LTE) : LTE := fun ρ ω x k => ta ρ ω x fun a ω1 => tb ρ ω1 x fun b ω2 => s a b ω2 x k
def dUn (s : S1) (ta : LTE) : LTE := fun ρ ω x k => ta ρ ω x fun a ω1 => s a ω1 x k
def Lf2 (K : PySem.W.Frag) (E : XK) (r : R2) (s : S2) : Prop := ∀ (F H : Hp) (ω : Store) (u v : V) (a b : D) (x : KX) (k : KV) (Q : VK), Hd K F H ω → Rp K F u a → Rp K F v b → LX K F E x → s a b ω x k → WV K F k Q → r u v H Q
def Lf1 (K : PySem.W.Frag) (E : XK) (r : V → Hp → VK → Prop) (s : S1) : Prop := ∀ (F H : Hp) (ω : Store) (u : V) (a : D) (x : KX) (k : KV) (Q : VK), Hd K F H ω → Rp K F u a → LX K F E x → s a ω x k → WV K F k Q → r u H Q
def LfN (K : PySem.W.Frag) (E : XK) (r : List V → Hp → VK → Prop) (s : SN) : Prop := ∀ (F H : Hp) (ω : Store) (us : List V) (ds : List D) (x : KX) (k : KV) (Q : VK), Hd K F H ω → RpL K F us ds → LX K F E x → s ds ω x k → WV K F k Q → r us H Q
theorem Lf2.or {r r' : R2} {s s' : S2} (h : Lf2 K E r s) (h' : Lf2 K E r' s') : Lf2 K E (fun x y H Q => r x y H Q ∨ r' x y H Q) (fun a b ω x k => s a b ω x k ∨ s' a b ω x k) :=
  fun F H ω u v a b x k Q hd ra rb lx q w => q.elim (fun q => .inl (h F H ω u v a b x k Q hd ra rb lx q w)) fun q => .inr (h' F H ω u v a b x k Q hd ra rb lx q w)
theorem LfN.or {r r' : List V → Hp → VK → Prop} {s s' : SN} (h : LfN K E r s) (h' : LfN K E r' s') : LfN K E (fun x H Q => r x H Q ∨ r' x H Q) (fun a ω x k => s a ω x k ∨ s' a ω x k) :=
  fun F H ω u a x k Q hd ra lx q w => q.elim (fun q => .inl (h F H ω u a x k Q hd ra lx q w)) fun q => .inr (h' F H ω u a x k Q hd ra lx q w)
theorem lf_op {r : R2} {s : S2} {ta tb : TE} {da db : LTE} (hs : Lf2 K E r s) (ha : LfE K E ta da) (hb : LfE K E tb db) : LfE K E (tOp r ta tb) (dOp s da db) :=
  fun F H σ ρ ω x k Q hd hr lx q w => ha F H σ ρ ω x _ _ hd hr lx q fun u a F1 H1 ω1 q1 s1 hd1 r1 =>
    hb F1 H1 σ ρ ω1 x _ _ hd1 (hr.mono s1) (lx.mono s1) q1 fun v b F2 H2 ω2 q2 s2 hd2 r2 =>
      hs F2 H2 ω2 u v a b x k Q hd2 (r1.mono s2) r2 ((lx.mono s1).mono s2) q2 ((w.mono s1).mono s2)
theorem lf_un {r : V → Hp → VK → Prop} {s : S1} {ta : TE} {da : LTE} (hs : Lf1 K E r s) (ha : LfE K E ta da) : LfE K E (tUn r ta) (dUn s da) :=
  fun F H σ ρ ω x k Q hd hr lx q w => ha F H σ ρ ω x _ _ hd hr lx q fun u a F1 H1 ω1 q1 s1 hd1 r1 => hs F1 H1 ω1 u a x k Q hd1 r1 (lx.mono s1) q1 (w.mono s1)

/-! ### arguments, displays, calls -/
def dNil : LTA := fun _ ω _ k => k [] ω
def dCons (ta : LTE) (tr : LTA) : LTA := fun ρ ω x k => ta ρ ω x fun d ω1 => tr ρ ω1 x fun ds ω2 => k (d :: ds) ω2
theorem lf_nil : LfA K E tNil dNil := fun F H σ ρ ω x k Q hd hr _ q w => w [] [] F H ω q (same_refl F) hd .nil
theorem lf_cons {te : TE} {t : TA} {de : LTE} {da : LTA} (he : LfE K E te de) (ha : LfA K E t da) : LfA K E (tCons te t) (dCons de da) :=
  fun F H σ ρ ω x k Q hd hr lx q w => he F H σ ρ ω x _ _ hd hr lx q fun v d F1 H1 ω1 q1 s1 hd1 r1 =>
    ha F1 H1 σ ρ ω1 x _ _ hd1 (hr.mono s1) (lx.mono s1) q1 fun vs ds F2 H2 ω2 q2 s2 hd2 r2 => w (v :: vs) (d :: ds) F2 H2 ω2 q2 (same_tr s1 s2) hd2 (.cons (r1.mono s2) r2)
def dTup (ta : LTA) : LTE := fun ρ ω x k => ta ρ ω x fun ds ω1 => ds.length ≤ sizeLine ∧ k (.tup ds) ω1
/-- a new list: frozen, or one that may change -/
def NewL (ds : List D) (ω : Store) (k : KV) : Prop := k (.lst ds) ω ∨ ∀ p, ω p = none → k (.ptr p) (sup ω p (.lst ds))
theorem newL_ok {F H : Hp} {ω : Store} {vs : List V} {ds : List D} {k : KV} {Q : VK} (hd : Hd K F H ω) (r : RpL K F vs ds) (q : NewL ds ω k) (w : WV K F k Q) : ∀ p, H p = none → Q (.ref p) (upd H p (.lst vs)) := fun p hp => by
  rcases q with q | q
  · obtain ⟨h1, h2⟩ := hd.newF hp (.lst vs)
    exact w _ _ _ _ _ q h2 h1 (.lst upd_same (RpL.mono h2 r))
  · exact w _ _ _ _ _ (q p (hd.fω hp)) (same_refl F) (hd.newC hp (.lst r)) (.ptr p)
theorem newT_ok {F H : Hp} {ω : Store} {vs : List V} {ds : List D} {k : KV} {Q : VK} (hd : Hd K F H ω) (r : RpL K F vs ds) (q : k (.tup ds) ω) (w : WV K F k Q) : ∀ p, H p = none → Q (.ref p) (upd H p (.tup vs)) := fun p hp => by
  obtain ⟨h1, h2⟩ := hd.newF hp (.tup vs)
  exact w _ _ _ _ _ q h2 h1 (.tup (.inl (.inl upd_same)) (RpL.mono h2 r))
def dLst (ta : LTA) : LTE := fun ρ ω x k => ta ρ ω x fun ds ω1 => ds.length ≤ sizeLine ∧ NewL ds ω1 k
theorem lf_tup {t : TA} {d : LTA} (h : LfA K E t d) : LfE K E (tTup t) (dTup d) := fun F H σ ρ ω x k Q hd hr lx q w =>
  h F H σ ρ ω x _ _ hd hr lx q fun vs ds F1 H1 ω1 q1 s1 hd1 r1 => ⟨by rw [r1.length]; exact q1.1, newT_ok hd1 r1 q1.2 (w.mono s1)⟩
theorem lf_lst {t : TA} {d : LTA} (h : LfA K E t d) : LfE K E (tLst t) (dLst d) := fun F H σ ρ ω x k Q hd hr lx q w =>
  h F H σ ρ ω x _ _ hd hr lx q fun vs ds F1 H1 ω1 q1 s1 hd1 r1 => ⟨by rw [r1.length]; exact q1.1, newL_ok hd1 r1 q1.2 (w.mono s1)⟩
def dCB (s : SN) (ta : LTA) : LTE := fun ρ ω x k => ta ρ ω x fun ds ω1 => s ds ω1 x k
theorem lf_cb {r : List V → Hp → VK → Prop} {s : SN} {t : TA} {d : LTA} (hs : LfN K E r s) (h : LfA K E t d) : LfE K E (tCB r t) (dCB s d) := fun F H σ ρ ω x k Q hd hr lx q w =>
  h F H σ ρ ω x _ _ hd hr lx q fun vs ds F1 H1 ω1 q1 s1 hd1 r1 => hs F1 H1 ω1 vs ds x k Q hd1 r1 (lx.mono s1) q1 (w.mono s1)

/-! ### a def's promise over data -/
abbrev DSp := List D → Store → KX → KV → Prop
def lift (K : PySem.W.Frag) (S : DSp) : Sp := fun vs H Q E => ∃ F ω ds x k, Hd K F H ω ∧ RpL K F vs ds ∧ S ds ω x k ∧ LX K F E x ∧ WV K F k Q
theorem lf_call {S : DSp} {t : TA} {d : LTA} (h : LfA K E t d) : LfE K E (tCall (lift K S) [] E t) (dCB S d) := fun F H σ ρ ω x k Q hd hr lx q w =>
  h F H σ ρ ω x _ _ hd hr lx q fun vs ds F1 H1 ω1 q1 s1 hd1 r1 => ⟨F1, ω1, ds, x, k, hd1, by rw [List.append_nil]; exact r1, q1, lx.mono s1, w.mono s1⟩

/-! ### tests -/
def dTest (t : LTE) : LTT := fun ρ ω x k => t ρ ω x fun d ω1 => ∃ b, d = .bl b ∧ k b ω1
theorem lf_test {te : TE} {t : LTE} (h : LfE K E te t) : LfT K E (tTest te) (dTest t) := fun F H σ ρ ω x k Q hd hr lx q w =>
  h F H σ ρ ω x _ _ hd hr lx q fun v d F1 H1 ω1 ⟨b, e, q1⟩ s1 hd1 r1 => by
    subst e
    exact ⟨b, r1.bl_inv, w b F1 H1 ω1 q1 s1 hd1⟩
theorem lf_testB {te : TE} {t : LTE} (h : LfE K E te t) : LfT K E (tB te) (dTest t) := lf_test h
def TruD (d : D) (ω : Store) (b : Bool) : Prop := match d with
  | .non => b = false
  | .bl c => b = c
  | .int i => b = (i != 0)
  | .str s => s.length ≤ sizeLine ∧ b = ((s.length : Int) != 0)
  | .tup ds => b = !ds.isEmpty
  | .lst ds => b = !ds.isEmpty
  | .sq ds => b = !ds.isEmpty
  | .ptr p => (∃ ds, ω p = some (.lst ds) ∧ b = !ds.isEmpty) ∨ ∃ kvs, ω p = some (.dK kvs) ∧ b = !kvs.isEmpty
  | .ty _ => False
theorem isEmpty_len {α β : Type} {a : List α} {b : List β} (h : a.length = b.length) : a.isEmpty = b.isEmpty := by
  cases a <;> cases b <;> simp_all
theorem paired_len {α β : Type} {R : α → β → Prop} {a : List α} {b : List β} (h : Paired R a b) : a.length = b.length := Paired.length h
theorem tru_lf {F H : Hp} {ω : Store} (hd : Hd K F H ω) {v : V} {d : D} {b : Bool} (r : Rp K F v d) (h : TruD d ω b) : TruV K v H b := by
  cases d with
  | non =>
    cases r.non_inv
    exact h
  | bl c =>
    cases r.bl_inv
    exact h
  | int i =>
    cases r.int_inv
    exact h
  | str s =>
    cases r.str_inv
    exact h
  | tup ds =>
    obtain ⟨a, vs, rfl, hs, hr⟩ := r.tup_inv
    exact .inr (.inl ⟨vs, same_t hd.same hs, by rw [isEmpty_len hr.length]; exact h⟩)
  | lst ds =>
    obtain ⟨a, vs, rfl, hs, hr⟩ := r.lst_inv
    exact .inl ⟨vs, .inl (.inl (hd.same _ _ hs)), by rw [isEmpty_len hr.length]; exact h⟩
  | sq ds =>
    obtain ⟨a, vs, rfl, hs, hr⟩ := r.sq_inv
    exact .inl ⟨vs, same_l hd.same hs, by rw [isEmpty_len hr.length]; exact h⟩
  | ptr p =>
    cases r.ptr_inv
    rcases h with ⟨ds, e, h⟩ | ⟨kvs, e, h⟩
    · obtain ⟨_, o, e2, ok⟩ := hd.cell _ _ e
      cases ok with
      | lst hr => exact .inl ⟨_, .inl (.inl e2), by rw [isEmpty_len hr.length]; exact h⟩
    · obtain ⟨_, o, e2, ok⟩ := hd.cell _ _ e
      cases ok with
      | dK hr => exact .inr (.inr ⟨_, e2, by rw [isEmpty_len (paired_len hr)]; exact h⟩)
  | ty n => exact False.elim h
def tTruV (K : PySem.W.Frag) (te : TE) : TT := fun σ H Q => te σ H fun x H' => ∃ k, TruV K x H' k ∧ Q k H'
def dTru (t : LTE) : LTT := fun ρ ω x k => t ρ ω x fun d ω1 => ∃ b, TruD d ω1 b ∧ k b ω1
theorem lf_tru {te : TE} {t : LTE} (h : LfE K E te t) : LfT K E (tTruV K te) (dTru t) := fun F H σ ρ ω x k Q hd hr lx q w =>
  h F H σ ρ ω x _ _ hd hr lx q fun v d F1 H1 ω1 ⟨b, e, q1⟩ s1 hd1 r1 => ⟨b, tru_lf hd1 r1 e, w b F1 H1 ω1 q1 s1 hd1⟩
def dAnd (t u : LTT) : LTT := fun ρ ω x k => t ρ ω x fun c ω1 => if c = true then u ρ ω1 x k else k false ω1
def dOr (t u : LTT) : LTT := fun ρ ω x k => t ρ ω x fun c ω1 => if c = true then k true ω1 else u ρ ω1 x k
def dNot (t : LTT) : LTT := fun ρ ω x k => t ρ ω x fun c ω1 => k (!c) ω1
theorem lf_and {t u : TT} {a b : LTT} (h : LfT K E t a) (h' : LfT K E u b) : LfT K E (tAnd t u) (dAnd a b) := fun F H σ ρ ω x k Q hd hr lx q w =>
  h F H σ ρ ω x _ _ hd hr lx q fun c F1 H1 ω1 q1 s1 hd1 => by
    cases c with
    | true => exact h' F1 H1 σ ρ ω1 x k Q hd1 (hr.mono s1) (lx.mono s1) q1 (w.mono s1)
    | false => exact w false F1 H1 ω1 q1 s1 hd1
theorem lf_or {t u : TT} {a b : LTT} (h : LfT K E t a) (h' : LfT K E u b) : LfT K E (tOr t u) (dOr a b) := fun F H σ ρ ω x k Q hd hr lx q w =>
  h F H σ ρ ω x _ _ hd hr lx q fun c F1 H1 ω1 q1 s1 hd1 => by
    cases c with
    | false => exact h' F1 H1 σ ρ ω1 x k Q hd1 (hr.mono s1) (lx.mono s1) q1 (w.mono s1)
    | true => exact w true F1 H1 ω1 q1 s1 hd1
theorem lf_not {t : TT} {a : LTT} (h : LfT K E t a) : LfT K E (tNot t) (dNot a) := fun F H σ ρ ω x k Q hd hr lx q w =>
  h F H σ ρ ω x _ _ hd hr lx q fun c F1 H1 ω1 q1 s1 hd1 => w (!c) F1 H1 ω1 q1 s1 hd1
def dAndV (t u : LTE) : LTE := fun ρ ω x k => t ρ ω x fun d ω1 => ∃ c, d = .bl c ∧ if c = true then u ρ ω1 x k else k (.bl false) ω1
def dOrV (t u : LTE) : LTE := fun ρ ω x k => t ρ ω x fun d ω1 => ∃ c, d = .bl c ∧ if c = true then k (.bl true) ω1 else u ρ ω1 x k
def dNotV (t : LTE) : LTE := fun ρ ω x k => t ρ ω x fun d ω1 => ∃ c, d = .bl c ∧ k (.bl (!c)) ω1
theorem lf_andV {t u : TE} {a b : LTE} (h : LfE K E t a) (h' : LfE K E u b) : LfE K E (tAndV t u) (dAndV a b) := fun F H σ ρ ω x k Q hd hr lx q w =>
  h F H σ ρ ω x _ _ hd hr lx q fun v d F1 H1 ω1 ⟨c, e, q1⟩ s1 hd1 r1 => by
    subst e
    refine ⟨c, r1.bl_inv, ?_⟩
    cases c with
    | true => exact h' F1 H1 σ ρ ω1 x k Q hd1 (hr.mono s1) (lx.mono s1) q1 (w.mono s1)
    | false => exact w _ _ F1 H1 ω1 q1 s1 hd1 (.bl false)
theorem lf_orV {t u : TE} {a b : LTE} (h : LfE K E t a) (h' : LfE K E u b) : LfE K E (tOrV t u) (dOrV a b) := fun F H σ ρ ω x k Q hd hr lx q w =>
  h F H σ ρ ω x _ _ hd hr lx q fun v d F1 H1 ω1 ⟨c, e, q1⟩ s1 hd1 r1 => by
    subst e
    refine ⟨c, r1.bl_inv, ?_⟩
    cases c with
    | false => exact h' F1 H1 σ ρ ω1 x k Q hd1 (hr.mono s1) (lx.mono s1) q1 (w.mono s1)
    | true => exact w _ _ F1 H1 ω1 q1 s1 hd1 (.bl true)
theorem lf_notV {t : TE} {a : LTE} (h : LfE K E t a) : LfE K E (tNotV t) (dNotV a) := fun F H σ ρ ω x k Q hd hr lx q w =>
  h F H σ ρ ω x _ _ hd hr lx q fun v d F1 H1 ω1 ⟨c, e, q1⟩ s1 hd1 r1 => by
    subst e
    exact ⟨c, r1.bl_inv, w _ _ F1 H1 ω1 q1 s1 hd1 (.bl (!c))⟩
def dIf (t : LTT) (ta tb : LTE) : LTE := fun ρ ω x k => t ρ ω x fun c ω1 => if c = true then ta ρ ω1 x k else tb ρ ω1 x k
theorem lf_if {t : TT} {ta tb : TE} {d : LTT} {da db : LTE} (h : LfT K E t d) (ha : LfE K E ta da) (hb : LfE K E tb db) : LfE K E (tIf t ta tb) (dIf d da db) := fun F H σ ρ ω x k Q hd hr lx q w =>
  h F H σ ρ ω x _ _ hd hr lx q fun c F1 H1 ω1 q1 s1 hd1 => by
    cases c with
    | true => exact ha F1 H1 σ ρ ω1 x k Q hd1 (hr.mono s1) (lx.mono s1) q1 (w.mono s1)
    | false => exact hb F1 H1 σ ρ ω1 x k Q hd1 (hr.mono s1) (lx.mono s1) q1 (w.mono s1)
end
end L3
/-! L3c: operators on data. -/
namespace L3
open PySem L2
open PySem (PyData)

/-- a list as it stands: frozen, or in the store -/
inductive LstOf (ω : Store) : D → List D → Prop
  | fr (ds : List D) : LstOf ω (.lst ds) ds
  | ce {p : Addr} {ds : List D} : ω p = some (.lst ds) → LstOf ω (.ptr p) ds
/-- .. or one that is only read -/
inductive SqOf (ω : Store) : D → List D → Prop
  | fr (ds : List D) : SqOf ω (.lst ds) ds
  | ce {p : Addr} {ds : List D} : ω p = some (.lst ds) → SqOf ω (.ptr p) ds
  | sq (ds : List D) : SqOf ω (.sq ds) ds
mutual
/-- what a tree is as plain data -/
inductive Py (ω : Store) : D → PyData → Prop
  | non : Py ω .non .none
  | bl (b : Bool) : Py ω (.bl b) (.bool b)
  | int (i : Int) : Py ω (.int i) (.int i)
  | str (s : Str) : Py ω (.str s) (.str s)
  | tup {ds : List D} {ps : List PyData} : PyL ω ds ps → Py ω (.tup ds) (.tuple ps)
  | lst {ds : List D} {ps : List PyData} : PyL ω ds ps → Py ω (.lst ds) (.list ps)
  | sq {ds : List D} {ps : List PyData} : PyL ω ds ps → Py ω (.sq ds) (.list ps)
  | ptr {p : Addr} {ds : List D} {ps : List PyData} : ω p = some (.lst ds) → PyL ω ds ps → Py ω (.ptr p) (.list ps)
inductive PyL (ω : Store) : List D → List PyData → Prop
  | nil : PyL ω [] []
  | cons {d : D} {ds : List D} {p : PyData} {ps : List PyData} : Py ω d p → PyL ω ds ps → PyL ω (d :: ds) (p :: ps)
end
section
variable {K : PySem.W.Frag} {F H : Hp} {ω : Store}
theorem LstOf.at (hd : Hd K F H ω) {v : V} {d : D} {ds : List D} (r : Rp K F v d) (h : LstOf ω d ds) : ∃ a vs, v = .ref a ∧ H a = some (.lst vs) ∧ RpL K F vs ds := by
  cases h with
  | fr =>
    obtain ⟨a, vs, rfl, e, rl⟩ := r.lst_inv
    exact ⟨a, vs, rfl, hd.same _ _ e, rl⟩
  | ce e =>
    cases r.ptr_inv
    obtain ⟨_, o, e2, ok⟩ := hd.cell _ _ e
    cases ok with
    | lst rl => exact ⟨_, _, rfl, e2, rl⟩
theorem SqOf.at (hd : Hd K F H ω) {v : V} {d : D} {ds : List D} (r : Rp K F v d) (h : SqOf ω d ds) : ∃ a vs, v = .ref a ∧ SqL K H a vs ∧ RpL K F vs ds := by
  cases h with
  | fr =>
    obtain ⟨a, vs, e1, e, rl⟩ := LstOf.at hd r (.fr _)
    exact ⟨a, vs, e1, .inl (.inl e), rl⟩
  | ce e =>
    obtain ⟨a, vs, e1, e, rl⟩ := LstOf.at hd r (.ce e)
    exact ⟨a, vs, e1, .inl (.inl e), rl⟩
  | sq =>
    obtain ⟨a, vs, rfl, e, rl⟩ := r.sq_inv
    exact ⟨a, vs, rfl, same_l hd.same e, rl⟩
theorem tup_at (hd : Hd K F H ω) {v : V} {ds : List D} (r : Rp K F v (.tup ds)) : ∃ a vs, v = .ref a ∧ SqT K H a vs ∧ RpL K F vs ds := by
  obtain ⟨a, vs, rfl, e, rl⟩ := r.tup_inv
  exact ⟨a, vs, rfl, same_t hd.same e, rl⟩
mutual
theorem Py.dp (hd : Hd K F H ω) : ∀ {p : PyData} {d : D} {v : V}, Py ω d p → Rp K F v d → Dp K H v p
  | _, _, _, .non, r => by rw [r.non_inv]; exact .non
  | _, _, _, .bl b, r => by rw [r.bl_inv]; exact .bl b
  | _, _, _, .int b, r => by rw [r.int_inv]; exact .int b
  | _, _, _, .str b, r => by rw [r.str_inv]; exact .str b
  | _, _, _, .tup h, r => by
    obtain ⟨a, vs, rfl, e, rl⟩ := r.tup_inv
    exact .tup (same_t hd.same e) (PyL.dp hd h rl)
  | _, _, _, .lst h, r => by
    obtain ⟨a, vs, rfl, e, rl⟩ := r.lst_inv
    exact .lst (.inl (.inl (hd.same _ _ e))) (PyL.dp hd h rl)
  | _, _, _, .sq h, r => by
    obtain ⟨a, vs, rfl, e, rl⟩ := r.sq_inv
    exact .lst (same_l hd.same e) (PyL.dp hd h rl)
  | _, _, _, .ptr e0 h, r => by
    rw [r.ptr_inv]
    obtain ⟨_, o, e2, ok⟩ := hd.cell _ _ e0
    cases ok with
    | lst rl => exact .lst (.inl (.inl e2)) (PyL.dp hd h rl)
theorem PyL.dp (hd : Hd K F H ω) : ∀ {ps : List PyData} {ds : List D} {vs : List V}, PyL ω ds ps → RpL K F vs ds → DpAll K H vs ps
  | _, _, _, .nil, .nil => .nil
  | _, _, _, .cons h t, .cons r u => .cons (Py.dp hd h r) (PyL.dp hd t u)
end
end
/-- plain trees -/
inductive PlD where
  | non | bl (b : Bool) | int (i : Int) | str (s : Str) | tup (ds : List PlD) | lst (ds : List PlD)
mutual
def PlD.d : PlD → D
  | .non => .non
  | .bl b => .bl b
  | .int i => .int i
  | .str s => .str s
  | .tup ds => .tup (PlD.dl ds)
  | .lst ds => .lst (PlD.dl ds)
def PlD.dl : List PlD → List D
  | [] => []
  | a :: r => a.d :: PlD.dl r
end

section
variable {X : Cx} {E : XK}
structure OX (X : Cx) (E : XK) (f : Value → Value → Sem Value) (r : R2) (s : S2) : Prop where
  op : OpR X f r
  lf : Lf2 X.K E r s
theorem OX.or {f : Value → Value → Sem Value} {r r' : R2} {s s' : S2} (h : OX X E f r s) (h' : OX X E f r' s') : OX X E f (fun x y H Q => r x y H Q ∨ r' x y H Q) (fun a b ω x k => s a b ω x k ∨ s' a b ω x k) := ⟨h.op.or h'.op, h.lf.or h'.lf⟩
/-- two ints, under C -/
def sI (C : Int → Int → Prop) (g : Int → Int → D) : S2 := fun a b ω _ k => ∃ i j, a = .int i ∧ b = .int j ∧ C i j ∧ k (g i j) ω
def sI0 (g : Int → Int → D) : S2 := fun a b ω _ k => ∃ i j, a = .int i ∧ b = .int j ∧ k (g i j) ω
theorem lf_I {C : Int → Int → Prop} {g : Int → Int → V} {g' : Int → Int → D} (hg : ∀ F i j, Rp X.K F (g i j) (g' i j)) : Lf2 X.K E (rI C g) (sI C g') := fun F H ω u v a b x k Q hd ra rb _ ⟨i, j, e1, e2, c, q⟩ w => by
  subst e1 e2
  exact ⟨i, j, ra.int_inv, rb.int_inv, c, w.here q hd (hg F i j)⟩
theorem lf_I0 {g : Int → Int → V} {g' : Int → Int → D} (hg : ∀ F i j, Rp X.K F (g i j) (g' i j)) : Lf2 X.K E (rI0 g) (sI0 g') := fun F H ω u v a b x k Q hd ra rb _ ⟨i, j, e1, e2, q⟩ w => by
  subst e1 e2
  exact ⟨i, j, ra.int_inv, rb.int_inv, w.here q hd (hg F i j)⟩

/-! ### + -/
def sAddS : S2 := fun a b ω _ k => ∃ s t, a = .str s ∧ b = .str t ∧ s.length + t.length ≤ sizeLine ∧ k (.str (s ++ t)) ω
def sAddL : S2 := fun a b ω _ k => ∃ ds es, LstOf ω a ds ∧ LstOf ω b es ∧ ds.length + es.length ≤ sizeLine ∧ NewL (ds ++ es) ω k
def sAddT : S2 := fun a b ω _ k => ∃ ds es, a = .tup ds ∧ b = .tup es ∧ ds.length + es.length ≤ sizeLine ∧ k (.tup (ds ++ es)) ω
def sAddIB : S2 := fun a b ω _ k => ∃ i c, a = .int i ∧ b = .bl c ∧ k (.int (i + PyProof.Rows.b2i c)) ω
theorem lf_addS : Lf2 X.K E (fun x y H Q => ∃ i j, x = .str i ∧ y = .str j ∧ i.length + j.length ≤ sizeLine ∧ Q (.str (i ++ j)) H) sAddS := fun F H ω u v a b x k Q hd ra rb _ ⟨i, j, e1, e2, c, q⟩ w => by
  subst e1 e2
  exact ⟨i, j, ra.str_inv, rb.str_inv, c, w.here q hd (.str _)⟩
theorem lf_addL : Lf2 X.K E rCat sAddL := fun F H ω u v a b x k Q hd ra rb _ ⟨ds, es, h1, h2, c, q⟩ w => by
  obtain ⟨p, vs, rfl, e1, r1⟩ := h1.at hd ra
  obtain ⟨p2, vs2, rfl, e2, r2⟩ := h2.at hd rb
  exact ⟨p, p2, vs, vs2, rfl, rfl, e1, e2, by rw [r1.length, r2.length]; exact c, newL_ok hd (r1.append r2) q w⟩
theorem lf_addT : Lf2 X.K E (rCatA X.K) sAddT := fun F H ω u v a b x k Q hd ra rb _ ⟨ds, es, h1, h2, c, q⟩ w => by
  subst h1 h2
  obtain ⟨p, vs, e1, s1, r1⟩ := tup_at hd ra
  obtain ⟨p2, vs2, e2, s2, r2⟩ := tup_at hd rb
  subst e1 e2
  refine ⟨p, p2, vs, vs2, rfl, rfl, s1, s2, by rw [r1.length, r2.length]; exact c, fun z => ?_, fun z1 z2 => ?_, fun _ _ => newT_ok hd (r1.append r2) q w⟩
  · subst z
    cases r1
    exact w.here q hd rb
  · subst z2
    cases r2
    rw [List.append_nil] at q
    exact w.here q hd ra
theorem lf_addIB : Lf2 X.K E (fun x y H Q => ∃ i k, x = .int i ∧ y = .bl k ∧ Q (.int (i + PyProof.Rows.b2i k)) H) sAddIB := fun F H ω u v a b x k Q hd ra rb _ ⟨i, j, e1, e2, q⟩ w => by
  subst e1 e2
  exact ⟨i, j, ra.int_inv, rb.bl_inv, w.here q hd (.int _)⟩
def sAdd : S2 := fun a b ω x k => sI0 (fun i j => .int (i + j)) a b ω x k ∨ sAddS a b ω x k ∨ sAddL a b ω x k ∨ sAddT a b ω x k ∨ sAddIB a b ω x k
def rAdd (K : PySem.W.Frag) : R2 := fun x y H Q => rI0 (fun i j => .int (i + j)) x y H Q ∨ (∃ i j, x = .str i ∧ y = .str j ∧ i.length + j.length ≤ sizeLine ∧ Q (.str (i ++ j)) H) ∨ rCat x y H Q ∨ rCatA K x y H Q ∨ ∃ i k, x = .int i ∧ y = .bl k ∧ Q (.int (i + PyProof.Rows.b2i k)) H
theorem ox_add : OX X E (binaryOp .Add) (rAdd X.K) sAdd := OX.or ⟨op_add, lf_I0 fun _ _ _ => .int _⟩ (OX.or ⟨op_add_str, lf_addS⟩ (OX.or ⟨op_cat, lf_addL⟩ (OX.or ⟨op_catA, lf_addT⟩ ⟨op_add_ib, lf_addIB⟩)))
def sSub : S2 := sI0 fun i j => .int (i - j)
theorem ox_sub : OX X E (binaryOp .Sub) (rI0 fun i j => .int (i - j)) sSub := ⟨op_sub, lf_I0 fun _ _ _ => .int _⟩
def sMul : S2 := sI CMul fun i j => .int (i * j)
theorem ox_mul : OX X E (binaryOp .Mult) (rI CMul fun i j => .int (i * j)) sMul := ⟨op_mul, lf_I fun _ _ _ => .int _⟩
def sFdiv : S2 := sI CDivW fun i j => .int (i / j)
theorem ox_fdiv : OX X E (binaryOp .FloorDiv) (rI CDivW fun i j => .int (i / j)) sFdiv := ⟨op_fdivW, lf_I fun _ _ _ => .int _⟩
def sMod : S2 := sI (fun _ j => 0 < j) fun i j => .int (i % j)
theorem ox_mod : OX X E (binaryOp .Mod) (rI (fun _ j => 0 < j) fun i j => .int (i % j)) sMod := ⟨op_mod, lf_I fun _ _ _ => .int _⟩
def sPow : S2 := sI CPow fun i j => .int (i ^ j.toNat)
theorem ox_pow : OX X E (binaryOp .Pow) (rI CPow fun i j => .int (i ^ j.toNat)) sPow := ⟨op_pow, lf_I fun _ _ _ => .int _⟩
def sShl : S2 := sI CPow fun i j => .int (i * 2 ^ j.toNat)
theorem ox_shl : OX X E (binaryOp .LShift) (rI CPow fun i j => .int (i * 2 ^ j.toNat)) sShl := ⟨op_shl, lf_I fun _ _ _ => .int _⟩
def sShr : S2 := sI (fun _ j => 0 ≤ j) fun i j => .int (i / 2 ^ j.toNat)
theorem ox_shr : OX X E (binaryOp .RShift) (rI (fun _ j => 0 ≤ j) fun i j => .int (i / 2 ^ j.toNat)) sShr := ⟨op_shr, lf_I fun _ _ _ => .int _⟩
def sBand : S2 := sI0 fun i j => .int (Builtin.bitAnd i j)
theorem ox_band : OX X E (binaryOp .BitAnd) (rI0 fun i j => .int (Builtin.bitAnd i j)) sBand := ⟨op_and, lf_I0 fun _ _ _ => .int _⟩

/-! ### == -/
def sEqS (p : Bool → Bool) : S2 := fun a b ω _ k => (∃ s t, a = .str s ∧ b = .str t ∧ k (.bl (p (decide (s = t)))) ω) ∨ (∃ i j, a = .int i ∧ b = .int j ∧ k (.bl (p (decide (i = j)))) ω) ∨ (∃ c d, a = .bl c ∧ b = .bl d ∧ k (.bl (p (decide (c = d)))) ω)
def rSc (p : Bool → Bool) : R2 := fun x y H Q => scal x y = true ∧ Q (.bl (p (decide (x = y)))) H
theorem dec_str' {s t : Str} : decide (V.str s = V.str t) = decide (s = t) := by
  rw [Bool.eq_iff_iff]
  simp
theorem dec_int' {s t : Int} : decide (V.int s = V.int t) = decide (s = t) := by
  rw [Bool.eq_iff_iff]
  simp
theorem dec_bl' {s t : Bool} : decide (V.bl s = V.bl t) = decide (s = t) := by
  rw [Bool.eq_iff_iff]
  simp
theorem lf_sc (p : Bool → Bool) : Lf2 X.K E (rSc p) (sEqS p) := fun F H ω u v a b x k Q hd ra rb _ q w => by
  rcases q with ⟨s, t, e1, e2, q⟩ | ⟨s, t, e1, e2, q⟩ | ⟨s, t, e1, e2, q⟩ <;> subst e1 e2
  · rw [ra.str_inv, rb.str_inv]
    exact ⟨rfl, by rw [dec_str']; exact w.here q hd (.bl _)⟩
  · rw [ra.int_inv, rb.int_inv]
    exact ⟨rfl, by rw [dec_int']; exact w.here q hd (.bl _)⟩
  · rw [ra.bl_inv, rb.bl_inv]
    exact ⟨rfl, by rw [dec_bl']; exact w.here q hd (.bl _)⟩
/-- plain data of any depth -/
def sEqD (p : Bool → Bool) : S2 := fun a b ω _ k => ∃ c d, Py ω a c ∧ Py ω b d ∧ c.canLay0 = true ∧ d.canLay0 = true ∧ min c.depth d.depth ≤ 64 ∧ k (.bl (p (PyData.eqv c d))) ω
def rEqP (K : PySem.W.Frag) (p : Bool → Bool) : R2 := fun x y H Q => ∃ c d, Dp K H x c ∧ Dp K H y d ∧ c.canLay0 = true ∧ d.canLay0 = true ∧ min c.depth d.depth ≤ 64 ∧ Q (.bl (p (PyData.eqv c d))) H
theorem lf_eqP (p : Bool → Bool) : Lf2 X.K E (rEqP X.K p) (sEqD p) := fun F H ω u v a b x k Q hd ra rb _ ⟨c, d, h1, h2, h3, h4, h5, q⟩ w => ⟨c, d, h1.dp hd ra, h2.dp hd rb, h3, h4, h5, w.here q hd (.bl _)⟩
theorem op_eqP (hu : X.A.units + 64 < cLine) : OpR X (compareOp .Eq) (rEqP X.K id) := by
  intro pins s σ H x y v u Q I rx ry h
  obtain ⟨d, e, hd, he, sd, se, hm, q⟩ := h
  obtain ⟨as, r1⟩ := Dp.reads I d x v hd rx
  obtain ⟨bs, r2⟩ := Dp.reads I e y u he ry
  exact SeqAt.compareEq_reads r1 r2 sd se (by omega) ⟨.bl _, H, I, rfl, q⟩
theorem op_neP (hu : X.A.units + 64 < cLine) : OpR X (compareOp .NotEq) (rEqP X.K not) := by
  intro pins s σ H x y v u Q I rx ry h
  obtain ⟨d, e, hd, he, sd, se, hm, q⟩ := h
  obtain ⟨as, r1⟩ := Dp.reads I d x v hd rx
  obtain ⟨bs, r2⟩ := Dp.reads I e y u he ry
  exact SeqAt.compareNe_reads r1 r2 sd se (by omega) ⟨.bl _, H, I, rfl, q⟩
def sEq : S2 := fun a b ω x k => sEqS id a b ω x k ∨ sEqD id a b ω x k
def sNe : S2 := fun a b ω x k => sEqS not a b ω x k ∨ sEqD not a b ω x k
def rEqX (K : PySem.W.Frag) (p : Bool → Bool) : R2 := fun x y H Q => rSc p x y H Q ∨ rEqP K p x y H Q
theorem ox_eq (hu : X.A.units + 64 < cLine) : OX X E (compareOp .Eq) (rEqX X.K id) sEq := OX.or ⟨op_eq, lf_sc id⟩ ⟨op_eqP hu, lf_eqP id⟩
theorem ox_ne (hu : X.A.units + 64 < cLine) : OX X E (compareOp .NotEq) (rEqX X.K not) sNe := OX.or ⟨op_ne, lf_sc not⟩ ⟨op_neP hu, lf_eqP not⟩
/-! ### < <= > >= of ints -/
def sLt : S2 := sI0 fun i j => .bl (decide (i < j))
def sLe : S2 := sI0 fun i j => .bl (decide (i ≤ j))
def sGt : S2 := sI0 fun i j => .bl (decide (j < i))
def sGe : S2 := sI0 fun i j => .bl (decide (j ≤ i))
theorem ox_lt : OX X E (compareOp .Lt) (rI0 fun i j => .bl (decide (i < j))) sLt := ⟨op_lt, lf_I0 fun _ _ _ => .bl _⟩
theorem ox_le : OX X E (compareOp .LtE) (rI0 fun i j => .bl (decide (i ≤ j))) sLe := ⟨op_le, lf_I0 fun _ _ _ => .bl _⟩
theorem ox_gt : OX X E (compareOp .Gt) (rI0 fun i j => .bl (decide (j < i))) sGt := ⟨op_gt, lf_I0 fun _ _ _ => .bl _⟩
theorem ox_ge : OX X E (compareOp .GtE) (rI0 fun i j => .bl (decide (j ≤ i))) sGe := ⟨op_ge, lf_I0 fun _ _ _ => .bl _⟩
/-! ### is, is not: None, bools -/
def sIsN (p : Bool → Bool) : S2 := fun a b ω _ k => b = .non ∧ ∃ c, (a = .non ∧ c = true ∨ a ≠ .non ∧ c = false) ∧ k (.bl (p c)) ω
theorem lf_isN (p : Bool → Bool) : Lf2 X.K E (fun x y H Q => y = .non ∧ Q (.bl (p (decide (x = .non)))) H) (sIsN p) := fun F H ω u v a b x k Q hd ra rb _ ⟨e, c, hc, q⟩ w => by
  subst e
  refine ⟨rb.non_inv, ?_⟩
  have z : decide (u = V.non) = c := by
    rcases hc with ⟨e, rfl⟩ | ⟨e, rfl⟩
    · subst e
      rw [ra.non_inv]
      rfl
    · refine decide_eq_false fun z => e ?_
      subst z
      cases ra
      rfl
  rw [z]
  exact w.here q hd (.bl _)
def sIsB (p : Bool → Bool) : S2 := fun a b ω _ k => ∃ c d, a = .bl c ∧ b = .bl d ∧ k (.bl (p (decide (c = d)))) ω
theorem lf_isB (p : Bool → Bool) : Lf2 X.K E (fun x y H Q => ∃ a b, x = .bl a ∧ y = .bl b ∧ Q (.bl (p (decide (a = b)))) H) (sIsB p) := fun F H ω u v a b x k Q hd ra rb _ ⟨c, d, e1, e2, q⟩ w => by
  subst e1 e2
  exact ⟨c, d, ra.bl_inv, rb.bl_inv, w.here q hd (.bl _)⟩
def sIs : S2 := fun a b ω x k => sIsN id a b ω x k ∨ sIsB id a b ω x k
def sIsNot : S2 := fun a b ω x k => sIsN not a b ω x k ∨ sIsB not a b ω x k
/-! ### in: flat things in a list or a tuple; a key in a dict of the store; a sign in a text -/
inductive Flat : D → Prop
  | non : Flat .non
  | bl (b : Bool) : Flat (.bl b)
  | int (i : Int) : Flat (.int i)
  | str (s : Str) : Flat (.str s)
def eqF : D → D → Bool
  | .non, .non => true
  | .bl a, .bl b => a == b
  | .bl a, .int b => (if a then 1 else 0) == b
  | .int a, .bl b => a == (if b then 1 else 0)
  | .int a, .int b => a == b
  | .str a, .str b => a == b
  | _, _ => false
theorem Flat.v {F : Hp} {v : V} {d : D} (h : Flat d) (r : Rp X.K F v d) : flatV v = true := by
  cases h with
  | non => rw [r.non_inv]; rfl
  | bl b => rw [r.bl_inv]; rfl
  | int b => rw [r.int_inv]; rfl
  | str b => rw [r.str_inv]; rfl
theorem eqF_V {F : Hp} {v u : V} {d e : D} (h : Flat d) (h' : Flat e) (r : Rp X.K F v d) (r' : Rp X.K F u e) : eqV v u = eqF d e := by
  cases h with
  | non =>
    rw [r.non_inv]
    cases h' with
    | non => rw [r'.non_inv]; rfl
    | bl b => rw [r'.bl_inv]; rfl
    | int b => rw [r'.int_inv]; rfl
    | str b => rw [r'.str_inv]; rfl
  | bl b =>
    rw [r.bl_inv]
    cases h' with
    | non => rw [r'.non_inv]; rfl
    | bl b => rw [r'.bl_inv]; rfl
    | int b => rw [r'.int_inv]; rfl
    | str b => rw [r'.str_inv]; rfl
  | int b =>
    rw [r.int_inv]
    cases h' with
    | non => rw [r'.non_inv]; rfl
    | bl b => rw [r'.bl_inv]; rfl
    | int b => rw [r'.int_inv]; rfl
    | str b => rw [r'.str_inv]; rfl
  | str b =>
    rw [r.str_inv]
    cases h' with
    | non => rw [r'.non_inv]; rfl
    | bl b => rw [r'.bl_inv]; rfl
    | int b => rw [r'.int_inv]; rfl
    | str b => rw [r'.str_inv]; rfl
def inF (d : D) (ds : List D) : Bool := ds.any fun y => eqF y d
theorem flats_all {F : Hp} : ∀ {vs : List V} {ds : List D}, RpL X.K F vs ds → (∀ d ∈ ds, Flat d) → vs.all flatV = true
  | _, _, .nil, _ => rfl
  | _, _, .cons r t, h => by
    rw [List.all_cons, (h _ (List.mem_cons_self ..)).v r, flats_all t fun d hd => h d (List.mem_cons_of_mem _ hd)]
    rfl
theorem inF_V {F : Hp} {v : V} {d : D} (hf : Flat d) (r : Rp X.K F v d) : ∀ {vs : List V} {ds : List D}, RpL X.K F vs ds → (∀ d ∈ ds, Flat d) → inV v vs = inF d ds
  | _, _, .nil, _ => rfl
  | _, _, .cons r' t, h => by
    have ih := inF_V hf r t fun d hd => h d (List.mem_cons_of_mem _ hd)
    unfold inV inF at ih ⊢
    rw [List.any_cons, List.any_cons, ih, eqF_V (h _ (List.mem_cons_self ..)) hf r' r]
def sInF (p : Bool → Bool) : S2 := fun a b ω _ k => ∃ ds, (SqOf ω b ds ∨ b = .tup ds) ∧ Flat a ∧ (∀ d ∈ ds, Flat d) ∧ k (.bl (p (inF a ds))) ω
theorem lf_inF : Lf2 X.K E (rIn X.K false) (sInF id) := fun F H ω u v a b x k Q hd ra rb _ ⟨ds, h, fa, fs, q⟩ w => by
  rcases h with h | h
  · obtain ⟨p, vs, rfl, e, rl⟩ := h.at hd rb
    refine ⟨p, vs, rfl, .inl e, fa.v ra, flats_all rl fs, ?_⟩
    rw [if_neg Bool.false_ne_true, inF_V fa ra rl fs]
    exact w.here q hd (.bl _)
  · subst h
    obtain ⟨p, vs, rfl, e, rl⟩ := tup_at hd rb
    refine ⟨p, vs, rfl, .inr e, fa.v ra, flats_all rl fs, ?_⟩
    rw [if_neg Bool.false_ne_true, inF_V fa ra rl fs]
    exact w.here q hd (.bl _)
theorem lf_ninF : Lf2 X.K E (rIn X.K true) (sInF not) := fun F H ω u v a b x k Q hd ra rb _ ⟨ds, h, fa, fs, q⟩ w => by
  rcases h with h | h
  · obtain ⟨p, vs, rfl, e, rl⟩ := h.at hd rb
    refine ⟨p, vs, rfl, .inl e, fa.v ra, flats_all rl fs, ?_⟩
    rw [if_pos rfl, inF_V fa ra rl fs]
    exact w.here q hd (.bl _)
  · subst h
    obtain ⟨p, vs, rfl, e, rl⟩ := tup_at hd rb
    refine ⟨p, vs, rfl, .inr e, fa.v ra, flats_all rl fs, ?_⟩
    rw [if_pos rfl, inF_V fa ra rl fs]
    exact w.here q hd (.bl _)
/-- the value at a key of a dict -/
def valD {κ : Type} [DecidableEq κ] (kvs : List (κ × D)) (k : κ) : Option D := (kvs.find? fun p => decide (p.1 = k)).map (·.2)
end
end L3
/-! L3d: is, in, subscripts, slices, built-in calls, methods of lists. -/
namespace L3
open PySem L2
open PySem (PyData)
section
variable {X : Cx} {E : XK}
def rIsX : R2 := fun x y H Q => (y = .non ∧ Q (.bl (id (decide (x = .non)))) H) ∨ ∃ a b, x = .bl a ∧ y = .bl b ∧ Q (.bl (id (decide (a = b)))) H
def rIsNotX : R2 := fun x y H Q => (y = .non ∧ Q (.bl (not (decide (x = .non)))) H) ∨ ∃ a b, x = .bl a ∧ y = .bl b ∧ Q (.bl (not (decide (a = b)))) H
theorem ox_is : OX X E (compareOp .Is) rIsX sIs := OX.or ⟨op_isN, lf_isN id⟩ ⟨op_is_bl, lf_isB id⟩
theorem ox_isnot : OX X E (compareOp .IsNot) rIsNotX sIsNot := OX.or ⟨op_notN, lf_isN not⟩ ⟨op_isnot_bl, lf_isB not⟩

/-! ### keys -/
def kD : Key → D
  | .inl i => .int i
  | .inr s => .str s
theorem kD_rp {F : Hp} {v : V} {k : Key} (r : Rp X.K F v (kD k)) : v = kV k := by
  cases k with
  | inl i => exact r.int_inv
  | inr s => exact r.str_inv
theorem kD_rp' {K : PySem.W.Frag} {F : Hp} (k : Key) : Rp K F (kV k) (kD k) := by
  cases k with
  | inl i => exact .int i
  | inr s => exact .str s
section
variable {κ : Type} [DecidableEq κ] {K : PySem.W.Frag} {F : Hp}
theorem valD_some : ∀ {kws : List (κ × V)} {kvs : List (κ × D)} {k : κ} {d : D}, KvR K F kws kvs → valD kvs k = some d → ∃ v, valV kws k = some v ∧ Rp K F v d
  | _, _, _, _, .nil, h => by cases h
  | (a, v) :: kws, (b, e) :: kvs, k, d, .cons h t, q => by
    obtain ⟨h1, h2⟩ := h
    have h1 : a = b := h1
    subst h1
    by_cases z : a = k
    · subst z
      have e2 : valD ((a, e) :: kvs) a = some e := by simp [valD]
      rw [e2] at q
      cases q
      exact ⟨v, valV_pos rfl, h2⟩
    · have e2 : valD ((a, e) :: kvs) k = valD kvs k := by simp [valD, List.find?_cons, z]
      rw [e2] at q
      obtain ⟨u, h3, h4⟩ := valD_some t q
      exact ⟨u, by rw [valV_neg z]; exact h3, h4⟩
theorem valD_none : ∀ {kws : List (κ × V)} {kvs : List (κ × D)} {k : κ}, KvR K F kws kvs → valD kvs k = none → valV kws k = none
  | _, _, _, .nil, _ => rfl
  | (a, v) :: kws, (b, e) :: kvs, k, .cons h t, q => by
    obtain ⟨h1, h2⟩ := h
    have h1 : a = b := h1
    subst h1
    by_cases z : a = k
    · subst z
      have e2 : valD ((a, e) :: kvs) a = some e := by simp [valD]
      rw [e2] at q
      cases q
    · have e2 : valD ((a, e) :: kvs) k = valD kvs k := by simp [valD, List.find?_cons, z]
      rw [e2] at q
      rw [valV_neg z]
      exact valD_none t q
theorem valD_isSome {kws : List (κ × V)} {kvs : List (κ × D)} {k : κ} (h : KvR K F kws kvs) : (valV kws k).isSome = (valD kvs k).isSome := by
  cases e : valD kvs k with
  | none => rw [valD_none h e] <;> rfl
  | some d =>
    obtain ⟨v, h1, _⟩ := valD_some h e
    rw [h1] <;> rfl
def putD (kvs : List (κ × D)) (k : κ) (d : D) : List (κ × D) :=
  if (kvs.any fun p => decide (p.1 = k)) = true then kvs.map (fun p => if p.1 = k then (p.1, d) else p) else kvs ++ [(k, d)]
theorem kvR_any {kws : List (κ × V)} {kvs : List (κ × D)} {k : κ} (h : KvR K F kws kvs) : (kws.any fun p => decide (p.1 = k)) = kvs.any fun p => decide (p.1 = k) := by
  unfold KvR at h
  induction h with
  | nil => rfl
  | cons h t ih => rw [List.any_cons, List.any_cons, ih, h.1]
theorem kvR_map {kws : List (κ × V)} {kvs : List (κ × D)} {k : κ} {v : V} {d : D} (r : Rp K F v d) (h : KvR K F kws kvs) : KvR K F (kws.map fun p => if p.1 = k then (p.1, v) else p) (kvs.map fun p => if p.1 = k then (p.1, d) else p) := by
  unfold KvR at h ⊢
  induction h with
  | nil => exact .nil
  | @cons p q _ _ h t ih =>
    rw [List.map_cons, List.map_cons]
    refine .cons ?_ ih
    by_cases z : p.1 = k
    · rw [if_pos z, if_pos (h.1.symm.trans z)]
      exact ⟨h.1, r⟩
    · rw [if_neg z, if_neg fun e => z (h.1.trans e)]
      exact h
theorem kvR_app {a c : List (κ × V)} {b d : List (κ × D)} (h : KvR K F a b) (h' : KvR K F c d) : KvR K F (a ++ c) (b ++ d) := by
  unfold KvR at h ⊢
  induction h with
  | nil => exact h'
  | cons q _ ih => exact .cons q ih
theorem kvR_put {kws : List (κ × V)} {kvs : List (κ × D)} {k : κ} {v : V} {d : D} (r : Rp K F v d) (h : KvR K F kws kvs) : KvR K F (putK kws k v) (putD kvs k d) := by
  unfold putK putD
  rw [kvR_any h]
  split
  · exact kvR_map r h
  · exact kvR_app h (.cons ⟨rfl, r⟩ .nil)
end

/-! ### subscripts -/
theorem atI_rp {K : PySem.W.Frag} {F : Hp} {vs : List V} {ds : List D} {i : Int} {d : D} (r : RpL K F vs ds) (h : atI ds i = some d) : ∃ v, atI vs i = some v ∧ Rp K F v d := by
  unfold atI at h ⊢
  rw [r.length]
  cases e : ixN ds.length i with
  | none =>
    rw [e] at h
    cases h
  | some j =>
    rw [e] at h
    exact r.get h
def sIxL : S2 := fun a b ω _ k => ∃ ds i d, SqOf ω a ds ∧ b = .int i ∧ atI ds i = some d ∧ k d ω
def sIxT : S2 := fun a b ω _ k => ∃ ds i d, a = .tup ds ∧ b = .int i ∧ atI ds i = some d ∧ k d ω
def sIxS : S2 := fun a b ω _ k => ∃ z i c, a = .str z ∧ b = .int i ∧ z.length ≤ sizeLine ∧ atI z.cps.toList i = some c ∧ k (.str ⟨#[c]⟩) ω
/-- a dict, locked or not -/
def DkOf (ω : Store) (p : Addr) (kvs : List (Key × D)) : Prop := ω p = some (.dK kvs) ∨ ∃ u, ω p = some (.dL u kvs)
def sIxK : S2 := fun a b ω _ k => ∃ p kvs q d, a = .ptr p ∧ DkOf ω p kvs ∧ b = kD q ∧ valD kvs q = some d ∧ k d ω
/-- a dict of the written part -/
def KD (K : PySem.W.Frag) (w : World) (p : Addr) (z : Str) (d : D) : Prop := ∃ v, KDct K w p z v ∧ Cst K v d
def sIxW (Y : Sg) : S2 := fun a b ω _ k => ∃ p z d, a = .ptr p ∧ b = .str z ∧ KD Y.K Y.w p z d ∧ k d ω
theorem lf_ixL : Lf2 X.K E (rIxL X.K) sIxL := fun F H ω u v a b x k Q hd ra rb _ ⟨ds, i, d, h1, h2, h3, q⟩ w => by
  subst h2
  obtain ⟨p, vs, rfl, e, rl⟩ := h1.at hd ra
  obtain ⟨y, e2, ry⟩ := atI_rp rl h3
  exact ⟨p, vs, i, y, rfl, rb.int_inv, e, e2, w.here q hd ry⟩
theorem lf_ixT : Lf2 X.K E (rIxT X.K) sIxT := fun F H ω u v a b x k Q hd ra rb _ ⟨ds, i, d, h1, h2, h3, q⟩ w => by
  subst h1 h2
  obtain ⟨p, vs, rfl, e, rl⟩ := tup_at hd ra
  obtain ⟨y, e2, ry⟩ := atI_rp rl h3
  exact ⟨p, vs, i, y, rfl, rb.int_inv, e, e2, w.here q hd ry⟩
theorem lf_ixS : Lf2 X.K E rIxS sIxS := fun F H ω u v a b x k Q hd ra rb _ ⟨z, i, c, h1, h2, h3, h4, q⟩ w => by
  subst h1 h2
  exact ⟨z, i, c, ra.str_inv, rb.int_inv, h3, h4, w.here q hd (.str _)⟩
def rIxDt : R2 := fun x y H Q => ∃ a v, x = .ref a ∧ DGet H a y (some v) ∧ Q v H
theorem ix_dt (hu : X.A.units + 1 < cLine) : IxR X rIxDt := by
  intro value slice pins s σ H x y v u Q I rx ry h hs
  obtain ⟨a, r, rfl, g, q⟩ := h
  cases rx
  exact PyProof.Rows.tail_any (dict_typeIs I g) PySem.F.slot_dict_getitem.lookup (d_getItem hu I g ry fun w' s3 I3 rw' => ⟨r, H, I3, rw', q⟩) hs
theorem lf_ixK : Lf2 X.K E rIxDt sIxK := fun F H ω u v a b x k Q hd ra rb _ ⟨p, kvs, kk, d, h1, h2, h3, h4, q⟩ w => by
  subst h1 h3
  rcases h2 with h2 | ⟨_, h2⟩
  · obtain ⟨_, o, e2, ok⟩ := hd.cell _ _ h2
    cases ok with
    | dK hr =>
      obtain ⟨y, e3, ry⟩ := valD_some hr h4
      exact ⟨p, y, ra.ptr_inv, .inl ⟨_, kk, .inl e2, kD_rp rb, e3.symm⟩, w.here q hd ry⟩
  · obtain ⟨_, o, e2, ok⟩ := hd.cell _ _ h2
    cases ok with
    | dL hr =>
      obtain ⟨y, e3, ry⟩ := valD_some hr h4
      exact ⟨p, y, ra.ptr_inv, .inl ⟨_, kk, .inr ⟨_, e2⟩, kD_rp rb, e3.symm⟩, w.here q hd ry⟩
theorem lf_ixW : Lf2 X.K E (rIxD X.K X.w) (sIxW (sg X)) := fun F H ω u v a b x k Q hd ra rb _ ⟨p, z, d, h1, h2, ⟨y, h3, h4⟩, q⟩ w => by
  subst h1 h2
  exact ⟨p, z, y, ra.ptr_inv, rb.str_inv, h3, w.here q hd (h4 F)⟩
structure IX (X : Cx) (E : XK) (r : R2) (s : S2) : Prop where
  op : IxR X r
  lf : Lf2 X.K E r s
theorem IX.or {r r' : R2} {s s' : S2} (h : IX X E r s) (h' : IX X E r' s') : IX X E (fun x y H Q => r x y H Q ∨ r' x y H Q) (fun a b ω x k => s a b ω x k ∨ s' a b ω x k) := ⟨h.op.or h'.op, h.lf.or h'.lf⟩
def rIxA (K : PySem.W.Frag) (w : World) : R2 := fun x y H Q => rIxL K x y H Q ∨ rIxT K x y H Q ∨ rIxS x y H Q ∨ rIxDt x y H Q ∨ rIxD K w x y H Q
def sIx (Y : Sg) : S2 := fun a b ω x k => sIxL a b ω x k ∨ sIxT a b ω x k ∨ sIxS a b ω x k ∨ sIxK a b ω x k ∨ sIxW Y a b ω x k
theorem ix_any (hu : X.A.units + 1 < cLine) : IX X E (rIxA X.K X.w) (sIx (sg X)) := IX.or ⟨ix_list, lf_ixL⟩ (IX.or ⟨ix_tup, lf_ixT⟩ (IX.or ⟨ix_str, lf_ixS⟩ (IX.or ⟨ix_dt hu, lf_ixK⟩ ⟨ix_kdict, lf_ixW⟩)))

/-! ### in -/
def sInK (p : Bool → Bool) : S2 := fun a b ω _ k => ∃ q kvs kk, b = .ptr q ∧ ω q = some (.dK kvs) ∧ a = kD kk ∧ k (.bl (p (valD kvs kk).isSome)) ω
def rInDt (p : Bool → Bool) : R2 := fun y x H Q => ∃ a o, x = .ref a ∧ DGet H a y o ∧ Q (.bl (p o.isSome)) H
theorem op_inDt (hu : X.A.units + 1 < cLine) : OpR X (compareOp .In) (rInDt id) := by
  intro pins s σ H y x u v Q I ry rx h
  obtain ⟨a, o, rfl, g, q⟩ := h
  cases rx
  exact d_in hu I g ry fun s3 I3 => ⟨.bl o.isSome, H, I3, rfl, q⟩
theorem op_ninDt (hu : X.A.units + 1 < cLine) : OpR X (compareOp .NotIn) (rInDt not) := by
  intro pins s σ H y x u v Q I ry rx h
  obtain ⟨a, o, rfl, g, q⟩ := h
  cases rx
  exact d_notIn hu I g ry fun s3 I3 => ⟨.bl (!o.isSome), H, I3, rfl, q⟩
theorem lf_inK (p : Bool → Bool) : Lf2 X.K E (rInDt p) (sInK p) := fun F H ω u v a b x k Q hd ra rb _ ⟨q0, kvs, kk, h1, h2, h3, q⟩ w => by
  subst h1 h3
  obtain ⟨_, o, e2, ok⟩ := hd.cell _ _ h2
  cases ok with
  | dK hr =>
    refine ⟨q0, _, rb.ptr_inv, .inl ⟨_, kk, .inl e2, kD_rp ra, rfl⟩, ?_⟩
    rw [valD_isSome hr]
    exact w.here q hd (.bl _)
def sInC (p : Bool → Bool) : S2 := fun a b ω _ k => ∃ (c : Nat) (z : Str), a = .str ⟨#[c]⟩ ∧ b = .str z ∧ k (.bl (p (decide (c ∈ z.cps.toList)))) ω
theorem lf_inC (p : Bool → Bool) : Lf2 X.K E (fun x y H Q => ∃ (c : Nat) (z : Str), x = .str ⟨#[c]⟩ ∧ y = .str z ∧ Q (.bl (p (decide (c ∈ z.cps.toList)))) H) (sInC p) := fun F H ω u v a b x k Q hd ra rb _ ⟨c, z, h1, h2, q⟩ w => by
  subst h1 h2
  exact ⟨c, z, ra.str_inv, rb.str_inv, w.here q hd (.bl _)⟩
def rInX (K : PySem.W.Frag) : R2 := fun x y H Q => rIn K false x y H Q ∨ rInDt id x y H Q ∨ ∃ (c : Nat) (z : Str), x = .str ⟨#[c]⟩ ∧ y = .str z ∧ Q (.bl (id (decide (c ∈ z.cps.toList)))) H
def rNinX (K : PySem.W.Frag) : R2 := fun x y H Q => rIn K true x y H Q ∨ rInDt not x y H Q ∨ ∃ (c : Nat) (z : Str), x = .str ⟨#[c]⟩ ∧ y = .str z ∧ Q (.bl (not (decide (c ∈ z.cps.toList)))) H
def sIn : S2 := fun a b ω x k => sInF id a b ω x k ∨ sInK id a b ω x k ∨ sInC id a b ω x k
def sNin : S2 := fun a b ω x k => sInF not a b ω x k ∨ sInK not a b ω x k ∨ sInC not a b ω x k
theorem ox_in (hu : X.A.units + 1 < cLine) : OX X E (compareOp .In) (rInX X.K) sIn := OX.or ⟨op_in_seq, lf_inF⟩ (OX.or ⟨op_inDt hu, lf_inK id⟩ ⟨op_in_sign, lf_inC id⟩)
theorem ox_nin (hu : X.A.units + 1 < cLine) : OX X E (compareOp .NotIn) (rNinX X.K) sNin := OX.or ⟨op_notIn_seq, lf_ninF⟩ (OX.or ⟨op_ninDt hu, lf_inK not⟩ ⟨op_notIn_sign, lf_inC not⟩)

/-! ### slices -/
def cutD (xs : List D) (lo hi : Option Int) : List D := (xs.drop (HT.sIx xs.length 0 lo)).take (HT.sIx xs.length xs.length hi - HT.sIx xs.length 0 lo)
theorem cut_rp {K : PySem.W.Frag} {F : Hp} {vs : List V} {ds : List D} (r : RpL K F vs ds) (lo hi : Option Int) : RpL K F (cutV vs lo hi) (cutD ds lo hi) := by
  unfold cutV cutD
  rw [r.length]
  exact (r.drop _).take _
abbrev S3 := D → Option Int → Option Int → Store → KX → KV → Prop
def Lf3 (K : PySem.W.Frag) (E : XK) (r : V → Option Int → Option Int → Hp → VK → Prop) (s : S3) : Prop := ∀ (F H : Hp) (ω : Store) (u : V) (a : D) (lo hi : Option Int) (x : KX) (k : KV) (Q : VK), Hd K F H ω → Rp K F u a → LX K F E x → s a lo hi ω x k → WV K F k Q → r u lo hi H Q
structure SX (X : Cx) (E : XK) (r : V → Option Int → Option Int → Hp → VK → Prop) (s : S3) : Prop where
  op : SlR X r
  lf : Lf3 X.K E r s
theorem SX.or {r r' : V → Option Int → Option Int → Hp → VK → Prop} {s s' : S3} (h : SX X E r s) (h' : SX X E r' s') : SX X E (fun x l u H Q => r x l u H Q ∨ r' x l u H Q) (fun a l u ω x k => s a l u ω x k ∨ s' a l u ω x k) :=
  ⟨h.op.or h'.op, fun F H ω u a lo hi x k Q hd ra lx q w => q.elim (fun q => .inl (h.lf F H ω u a lo hi x k Q hd ra lx q w)) fun q => .inr (h'.lf F H ω u a lo hi x k Q hd ra lx q w)⟩
def sSlL : S3 := fun a lo hi ω _ k => ∃ ds, SqOf ω a ds ∧ NewL (cutD ds lo hi) ω k
def sSlT : S3 := fun a lo hi ω _ k => ∃ ds, a = .tup ds ∧ k (.tup (cutD ds lo hi)) ω
def sSlS : S3 := fun a lo hi ω _ k => ∃ z, a = .str z ∧ z.length ≤ sizeLine ∧ k (.str (cutS z lo hi)) ω
theorem lf_slL : Lf3 X.K E (rSlL X.K) sSlL := fun F H ω u a lo hi x k Q hd ra _ ⟨ds, h, q⟩ w => by
  obtain ⟨p, vs, rfl, e, rl⟩ := h.at hd ra
  exact ⟨p, vs, rfl, e, newL_ok hd (cut_rp rl lo hi) q w⟩
theorem cutD_all {ds : List D} {lo hi : Option Int} (h1 : HT.sIx ds.length 0 lo = 0) (h2 : HT.sIx ds.length ds.length hi = ds.length) : cutD ds lo hi = ds := by
  unfold cutD
  rw [h1, h2, List.drop_zero, Nat.sub_zero, List.take_length]
theorem lf_slT : Lf3 X.K E (rSlA X.K) sSlT := fun F H ω u a lo hi x k Q hd ra _ ⟨ds, h, q⟩ w => by
  subst h
  obtain ⟨p, vs, rfl, e, rl⟩ := tup_at hd ra
  refine ⟨p, vs, rfl, e, fun z => ?_, fun _ => newT_ok hd (cut_rp rl lo hi) q w⟩
  rw [rl.length] at z
  rw [cutD_all z.1 z.2] at q
  exact w.here q hd ra
theorem lf_slS : Lf3 X.K E rSlS sSlS := fun F H ω u a lo hi x k Q hd ra _ ⟨z, h, hz, q⟩ w => by
  subst h
  exact ⟨z, ra.str_inv, hz, w.here q hd (.str _)⟩
def rSlX3 (K : PySem.W.Frag) : V → Option Int → Option Int → Hp → VK → Prop := fun x l u H Q => rSlL K x l u H Q ∨ rSlA K x l u H Q ∨ rSlS x l u H Q
def sSl : S3 := fun a l u ω x k => sSlL a l u ω x k ∨ sSlT a l u ω x k ∨ sSlS a l u ω x k
theorem sx_any : SX X E (rSlX3 X.K) sSl := SX.or ⟨sl_list, lf_slL⟩ (SX.or ⟨sl_tupA, lf_slT⟩ ⟨sl_str, lf_slS⟩)
abbrev LTO := Rho → Store → KX → (Option Int → Store → Prop) → Prop
def dNoP : LTO := fun _ ω _ k => k none ω
def dPart (t : LTE) : LTO := fun ρ ω x k => t ρ ω x fun d ω1 => ∃ i, d = .int i ∧ k (some i) ω1
def LfO (K : PySem.W.Frag) (E : XK) (to : TO) (t : LTO) : Prop := ∀ (F H : Hp) (σ : L2.St) (ρ : Rho) (ω : Store) (x : KX) (k : Option Int → Store → Prop) (Q : Option Int → Hp → Prop), Hd K F H ω → Rn K F σ ρ → LX K F E x → t ρ ω x k →
  (∀ o F' H' ω', k o ω' → Same F F' → Hd K F' H' ω' → Q o H') → to σ H Q
structure XO (X : Cx) (E : XK) (e : Option Expr) (to : TO) (t : LTO) : Prop where
  pe : PO X e to
  lf : LfO X.K E to t
theorem xo_none : XO X E none tNoPart dNoP := ⟨po_none, fun F H σ ρ ω x k Q hd hr _ q w => w none F H ω q (same_refl F) hd⟩
theorem xo_some {e : Expr} {te : TE} {t : LTE} (h : XE X E e te t) : XO X E (some e) (tPart te) (dPart t) := ⟨po_some h.pe, fun F H σ ρ ω x k Q hd hr lx q w =>
  h.lf F H σ ρ ω x _ _ hd hr lx q fun v d F1 H1 ω1 ⟨i, e, q1⟩ s1 hd1 r1 => by
    subst e
    exact ⟨i, r1.int_inv, w (some i) F1 H1 ω1 q1 s1 hd1⟩⟩
def dSl (s : S3) (te : LTE) (tl th : LTO) : LTE := fun ρ ω x k => te ρ ω x fun a ω1 => tl ρ ω1 x fun l ω2 => th ρ ω2 x fun u ω3 => s a l u ω3 x k
theorem xe_slice {e : Expr} {lo hi : Option Expr} {p2 pos : Pos} {r : V → Option Int → Option Int → Hp → VK → Prop} {s : S3} {te : TE} {t : LTE} {tl th : TO} {dl dh : LTO} (hs : SX X E r s) (he : XE X E e te t) (hl : XO X E lo tl dl) (hh : XO X E hi th dh) :
    XE X E (.Subscript e (.Slice lo hi none p2) pos) (tSl r te tl th) (dSl s t dl dh) := ⟨pe_slice hs.op he.pe hl.pe hh.pe, fun F H σ ρ ω x k Q hd hr lx q w =>
  he.lf F H σ ρ ω x _ _ hd hr lx q fun v d F1 H1 ω1 q1 s1 hd1 r1 => hl.lf F1 H1 σ ρ ω1 x _ _ hd1 (hr.mono s1) (lx.mono s1) q1 fun l F2 H2 ω2 q2 s2 hd2 =>
    hh.lf F2 H2 σ ρ ω2 x _ _ hd2 ((hr.mono s1).mono s2) ((lx.mono s1).mono s2) q2 fun u F3 H3 ω3 q3 s3 hd3 =>
      hs.lf F3 H3 ω3 v d l u x k Q hd3 (r1.mono (same_tr s2 s3)) (((lx.mono s1).mono s2).mono s3) q3 (((w.mono s1).mono s2).mono s3)⟩

/-! ### the rules for expressions -/
variable {a b c e : Expr} {es : List Expr} {ta tb te : TE} {da db de : LTE} {pos : Pos}
theorem xv (i : Nat) {x : Str} {pos : Pos} (hN : X.N[i]? = some x := by rfl) (hv : Vis X.env.scope x := by first | exact Or.inl rfl | exact Or.inr (Or.inl rfl) | exact Or.inr (Or.inr rfl)) (hd : (x == ("__debug__" : Str)) = false := by decide)
    (hcd : (x == ("__classdict__" : Str)) = false := by decide) : XE X E (.Name x pos) (tVar i) (dVar i) := ⟨pe_var hN hv hd hcd, lf_var⟩
theorem xi {i : Int} {j pos} : XE X E (.Constant (.int i) j pos) (tC (.int i)) (dC (.int i)) := ⟨pe_int, lf_c fun _ => .int i⟩
theorem xb {b : Bool} {j pos} : XE X E (.Constant (.bool b) j pos) (tC (.bl b)) (dC (.bl b)) := ⟨pe_bl, lf_c fun _ => .bl b⟩
theorem xn {j pos} : XE X E (.Constant .none j pos) (tC .non) (dC .non) := ⟨pe_non, lf_c fun _ => .non⟩
theorem xs {s : Str} {j pos} : XE X E (.Constant (.str s) j pos) (tC (.str s)) (dC (.str s)) := ⟨pe_str, lf_c fun _ => .str s⟩
/-- a constant of the module's top -/
structure CstD (K : PySem.W.Frag) (mg : Str → Option Value) (x : Str) (v : V) (d : D) : Prop where
  ex : ∃ u, mg x = some u ∧ RelV v u
  cs : Cst K v d
theorem xg {x : Str} {v : V} {d : D} {pos : Pos} (h : CstD X.K X.mg x v d) (hg : Gl X x := by rfl) (hd : (x == ("__debug__" : Str)) = false := by decide) : XE X E (.Name x pos) (tC v) (dC d) := by
  obtain ⟨u, h1, h2⟩ := h.ex
  exact ⟨pe_glob hg h1 h2 hd, lf_c h.cs⟩
theorem xe_bin {op : Operator} {r : R2} {s : S2} (h : OX X E (binaryOp op) r s) (ha : XE X E a ta da) (hb : XE X E b tb db) : XE X E (.BinOp a op b pos) (tOp r ta tb) (dOp s da db) := ⟨pe_op h.op ha.pe hb.pe, lf_op h.lf ha.lf hb.lf⟩
theorem xe_cmp {op : CmpOp} {r : R2} {s : S2} (h : OX X E (compareOp op) r s) (ha : XE X E a ta da) (hb : XE X E b tb db) (hm : behindInMarks op b = false := by first | exact nobehind _ (by decide) (by decide) | rfl) : XE X E (.Compare a [op] [b] pos) (tOp r ta tb) (dOp s da db) := ⟨pe_cmpR h.op ha.pe hb.pe hm, lf_op h.lf ha.lf hb.lf⟩
theorem xt_cmp {op : CmpOp} {r : R2} {s : S2} (h : OX X E (compareOp op) r s) (ha : XE X E a ta da) (hb : XE X E b tb db) (hm : behindInMarks op b = false := by first | exact nobehind _ (by decide) (by decide) | rfl) : XT X E (.Compare a [op] [b] pos) (tTest (tOp r ta tb)) (dTest (dOp s da db)) := ⟨pt_cmpR h.op ha.pe hb.pe hm, lf_test (lf_op h.lf ha.lf hb.lf)⟩
theorem xe_ix {r : R2} {s : S2} (h : IX X E r s) (ha : XE X E a ta da) (hb : XE X E b tb db) (hs : PlainIx b := by exact fun _ _ => rfl) : XE X E (.Subscript a b pos) (tOp r ta tb) (dOp s da db) := ⟨pe_ix h.op ha.pe hb.pe hs, lf_op h.lf ha.lf hb.lf⟩
def sNeg : S1 := fun a ω _ k => ∃ i, a = .int i ∧ k (.int (-i)) ω
theorem xe_neg (ha : XE X E a ta da) : XE X E (.UnaryOp .USub a pos) (tUn (rU fun i => .int (-i)) ta) (dUn sNeg da) := ⟨pe_un un_neg ha.pe, lf_un (fun F H ω u a x k Q hd ra _ ⟨i, e, q⟩ w => by
  subst e
  exact ⟨i, ra.int_inv, w.here q hd (.int _)⟩) ha.lf⟩
theorem xt_val {e : Expr} {te : TE} {t : LTE} (h : XE X E e te t) (he : ∀ whole, isTrue e X.env whole = (do let v ← whole; standAt e.pos; holding [v] (truthy v)) := by intro _; rfl) : XT X E e (tB te) (dTest t) := ⟨pt_val h.pe he, lf_testB h.lf⟩
theorem xt_tru {e : Expr} {te : TE} {t : LTE} (h : XE X E e te t) (he : ∀ whole, isTrue e X.env whole = (do let v ← whole; standAt e.pos; holding [v] (truthy v)) := by intro _; rfl) : XT X E e (tTruV X.K te) (dTru t) := ⟨pt_truth h.pe he, lf_tru h.lf⟩
variable {rest : List Expr} {tt tu : TT} {dt du : LTT}
theorem xw_and1 (h : XT X E a tt dt) : XW X E (.BoolOp .And [a] pos) tt dt := ⟨pw_and1 h.pe, h.lf⟩
theorem xw_or1 (h : XT X E a tt dt) : XW X E (.BoolOp .Or [a] pos) tt dt := ⟨pw_or1 h.pe, h.lf⟩
theorem xw_and (h : XT X E a tt dt) (h' : XW X E (.BoolOp .And (b :: rest) pos) tu du) : XW X E (.BoolOp .And (a :: b :: rest) pos) (tAnd tt tu) (dAnd dt du) := ⟨pw_and h.pe h'.pe, lf_and h.lf h'.lf⟩
theorem xw_or (h : XT X E a tt dt) (h' : XW X E (.BoolOp .Or (b :: rest) pos) tu du) : XW X E (.BoolOp .Or (a :: b :: rest) pos) (tOr tt tu) (dOr dt du) := ⟨pw_or h.pe h'.pe, lf_or h.lf h'.lf⟩
theorem XW.xt {e : Expr} (h : XW X E e tt dt) : XT X E e tt dt := ⟨h.pe.pt, h.lf⟩
theorem xt_not (h : XT X E a tt dt) : XT X E (.UnaryOp .Not a pos) (tNot tt) (dNot dt) := ⟨pt_not h.pe, lf_not h.lf⟩
theorem xe_one {op} (h : XE X E a ta da) : XE X E (.BoolOp op [a] pos) ta da := ⟨pe_one h.pe, h.lf⟩
theorem xe_and (ha : XE X E a ta da) (hb : XE X E (.BoolOp .And (b :: rest) pos) tb db) : XE X E (.BoolOp .And (a :: b :: rest) pos) (tAndV ta tb) (dAndV da db) := ⟨pe_and ha.pe hb.pe, lf_andV ha.lf hb.lf⟩
theorem xe_or (ha : XE X E a ta da) (hb : XE X E (.BoolOp .Or (b :: rest) pos) tb db) : XE X E (.BoolOp .Or (a :: b :: rest) pos) (tOrV ta tb) (dOrV da db) := ⟨pe_or ha.pe hb.pe, lf_orV ha.lf hb.lf⟩
theorem xe_not (ha : XE X E a ta da) : XE X E (.UnaryOp .Not a pos) (tNotV ta) (dNotV da) := ⟨pe_not ha.pe, lf_notV ha.lf⟩
theorem xe_if {c : Expr} (hc : XT X E c tt dt) (ha : XE X E a ta da) (hb : XE X E b tb db) : XE X E (.IfExp c a b pos) (tIf tt ta tb) (dIf dt da db) := ⟨pe_ifExp hc.pe ha.pe hb.pe, lf_if hc.lf ha.lf hb.lf⟩
variable {tA : TA} {dA : LTA}
theorem xa_nil : XA X E [] tNil dNil := ⟨pa_nil, lf_nil⟩
theorem xa_cons (h : XE X E e te de) (h' : XA X E es tA dA) (hs : starEach (e :: es) X.env = (false, eval e X.env) :: starEach es X.env := by rfl) : XA X E (e :: es) (tCons te tA) (dCons de dA) := ⟨pa_cons h.pe h'.pe hs, lf_cons h.lf h'.lf⟩
theorem xe_tup {x1} (h : XA X E es tA dA) : XE X E (.Tuple es x1 pos) (tTup tA) (dTup dA) := ⟨pe_tup h.pe, lf_tup h.lf⟩
theorem xe_lst (h : XA X E es tA dA) : XE X E (.List es pos) (tLst tA) (dLst dA) := ⟨pe_lst h.pe, lf_lst h.lf⟩

/-! ### built-in calls -/
structure CL (X : Cx) (E : XK) (f : Value) (r : List V → Hp → VK → Prop) (s : SN) : Prop where
  op : CallR X f r
  lf : LfN X.K E r s
theorem CL.or {f : Value} {r r' : List V → Hp → VK → Prop} {s s' : SN} (h : CL X E f r s) (h' : CL X E f r' s') : CL X E f (fun x H Q => r x H Q ∨ r' x H Q) (fun a ω x k => s a ω x k ∨ s' a ω x k) := ⟨h.op.or h'.op, h.lf.or h'.lf⟩
theorem xe_cb {id : String} {x : Str} {p : Pos} {r : List V → Hp → VK → Prop} {s : SN} (h : CL X E (.builtin id) r s) (hm : X.mg x = none) (hv : bootBuiltins x = some (.builtin id)) (ha : XA X E (e :: es) tA dA) (hg : Gl X x := by rfl) (hn : x ≠ "__name__" := by decide) (hdb : (x == ("__debug__" : Str)) = false := by decide)
    (he : starEach (e :: es) X.env = (false, eval e X.env) :: starEach es X.env := by rfl) (hpl : (backTo pos (starEach es X.env)).any (·.1) = false := by rfl) : XE X E (.Call (.Name x p) (e :: es) [] pos) (tCB r tA) (dCB s dA) := ⟨pe_callB h.op hg hm hv ha.pe hn hdb he hpl, lf_cb h.lf ha.lf⟩
theorem xe_ct {T : String} {x : Str} {p : Pos} {r : List V → Hp → VK → Prop} {s : SN} (h : CL X E (.type T) r s) (hm : X.mg x = none) (hv : bootBuiltins x = some (.type T)) (ha : XA X E (e :: es) tA dA) (hg : Gl X x := by rfl) (hn : x ≠ "__name__" := by decide) (hdb : (x == ("__debug__" : Str)) = false := by decide)
    (he : starEach (e :: es) X.env = (false, eval e X.env) :: starEach es X.env := by rfl) (hpl : (backTo pos (starEach es X.env)).any (·.1) = false := by rfl) : XE X E (.Call (.Name x p) (e :: es) [] pos) (tCB r tA) (dCB s dA) := ⟨pe_callTy h.op hg hm hv ha.pe hn hdb he hpl, lf_cb h.lf ha.lf⟩
end
end L3
/-! L3e: a def's contract that may lean on the guards (repr); calls; repr. -/
namespace L3
open PySem L2 PySem.Spec PyProof.Rows
open PySem (PyData)

/-- as HandS's contract of a def, but where g = true the call stands where no guard is taken -/
structure FnX (g : Bool) (P : Program) (w : World) (K : PySem.W.Frag) (mg : Str → Option Value) (base : Heap) (C0 : CXT) (k : Nat) (f : Addr) (fd : FuncData) (ps : List Str) (sp : Sp) : Prop where
  len : ∀ vs H Q E, sp vs H Q E → vs.length = ps.length
  go : ∀ (A : Around) (out : List Env) (s : Shared) (H : Hp) (args : Args) (us : List Value) (vs : List V) (Q : VK) (E : XK), (g = true → A.guards = some []) → Room k A →
    Env0 P w K mg base A out s H → BindsTo s fd args (ps.zip us) → Vals vs us → sp vs H Q E → codeAny (model P w) A (.call (.ref f) args) (CR C0 out P w H s Q E) s
theorem FnX.of {g : Bool} {P : Program} {w : World} {K : PySem.W.Frag} {mg : Str → Option Value} {base : Heap} {C0 : CXT} {k : Nat} {f : Addr} {fd : FuncData} {ps : List Str} {sp : Sp} (F : FnOk P w K mg base C0 k f fd ps sp) : FnX g P w K mg base C0 k f fd ps sp :=
  ⟨F.len, fun A out s H args us vs Q E _ hr => F.run A out s H args us vs Q E hr⟩
theorem FnX.ok {P : Program} {w : World} {K : PySem.W.Frag} {mg : Str → Option Value} {base : Heap} {C0 : CXT} {k : Nat} {f : Addr} {fd : FuncData} {ps : List Str} {sp : Sp} (F : FnX false P w K mg base C0 k f fd ps sp) : FnOk P w K mg base C0 k f fd ps sp :=
  ⟨F.len, fun A out s H args us vs Q E hr => F.go A out s H args us vs Q E (fun z => nomatch z) hr⟩
theorem FnX.up {g : Bool} {P : Program} {w : World} {K : PySem.W.Frag} {mg : Str → Option Value} {base : Heap} {C0 : CXT} {j k : Nat} {f : Addr} {fd : FuncData} {ps : List Str} {sp : Sp} (F : FnX g P w K mg base C0 j f fd ps sp) (h : j ≤ k) : FnX g P w K mg base C0 k f fd ps sp :=
  ⟨F.len, fun A out s H args us vs Q E hg hr => F.go A out s H args us vs Q E hg (hr.mono h)⟩

section
variable {g : Bool} {X : Cx} {C0 : CXT} {k : Nat} {f : Addr} {fd : FuncData} {ps ks : List Str} {sp : Sp} {dvs : List V} {ds : List Value} {E : XK} {pins : List (Addr × Obj)} {σ : L2.St} {H : Hp} {s : Shared} {Q : VK}
theorem run_x {us ws : List Value} {vs zs : List V} {h : List Value → List Value → List Value} {hV : List V → List V → List V} (F : FnX g X.prog X.w X.K X.mg X.base C0 k f fd ps sp) (hg : g = true → X.A.guards = some []) (hr : Room k X.A)
    (hb : KBinds X.K fd ps ks h hV) (hx : Passes C0 X E) (I : Inv X pins σ H s) (r : Vals vs us) (rz : Vals zs ws) (q : sp (hV vs zs) H Q E) : wpAny (model X.prog X.w) X.A (call (.ref f) us (ks.zip ws)) (EP X pins σ Q) X.xe s := by
  have r2 := hb.rel r rz
  have hl := r2.length.symm.trans (F.len _ _ _ _ q)
  refine wpAny_call (codeAny_mono (F.go X.A X.stack s H ⟨us, ks.zip ws⟩ _ _ Q E hg hr I.env0 (hb.to s us ws I.kIn hl) r2 q) fun r s' hq => ?_)
  cases r with
  | error er => exact hx _ _ _ _ er _ I hq
  | ok fl =>
    cases fl with
    | ret z => exact I.after hq
    | _ => exact False.elim hq
theorem run_p {us : List Value} {vs : List V} (F : FnX g X.prog X.w X.K X.mg X.base C0 k f fd ps sp) (hg : g = true → X.A.guards = some []) (hr : Room k X.A) (hb : Binds X.K fd ps ds) (hd : Vals dvs ds) (hx : Passes C0 X E)
    (I : Inv X pins σ H s) (r : Vals vs us) (q : sp (vs ++ dvs) H Q E) : wpAny (model X.prog X.w) X.A (call (.ref f) us) (EP X pins σ Q) X.xe s := by
  have r2 := r.append hd
  have hl := r2.length.symm.trans (F.len _ _ _ _ q)
  refine wpAny_call (codeAny_mono (F.go X.A X.stack s H ⟨us, []⟩ _ _ Q E hg hr I.env0 (hb s us I.kIn hl) r2 q) fun r s' hq => ?_)
  cases r with
  | error er => exact hx _ _ _ _ er _ I hq
  | ok fl =>
    cases fl with
    | ret z => exact I.after hq
    | _ => exact False.elim hq
variable {x : Str} {p pos : Pos} {e : Expr} {es : List Expr} {t tk : TA}
theorem px_call (F : FnX g X.prog X.w X.K X.mg X.base C0 k f fd ps sp) (hgd : g = true → X.A.guards = some []) (hr : Room k X.A) (hg : Gl X x) (hm : X.mg x = some (.ref f)) (hk : PySem.W.keepIn X.K (.ref f) = true) (hb : Binds X.K fd ps ds) (hd : Vals dvs ds) (hx : Passes C0 X E)
    (ha : PA X (e :: es) t) (hdb : (x == ("__debug__" : Str)) = false) (he : starEach (e :: es) X.env = (false, eval e X.env) :: starEach es X.env) (hpl : (backTo pos (starEach es X.env)).any (·.1) = false) : PE X (.Call (.Name x p) (e :: es) [] pos) (tCall sp dvs E t) :=
  ⟨fun pins s σ H Q I h => wpAny_Call_Name_kw (ld_glob I hg hm (PySem.W.callWith_K (h₀ := X.base) I.ok.mod.kin hk (thn (ha.run pos pins s σ H _ I h) fun us s1 ⟨vs, H1, I1, r, q⟩ => ⟨I1.kIn, run_p F hgd hr hb hd hx I1 r q⟩) he hpl) hdb)⟩
theorem px_call0 (F : FnX g X.prog X.w X.K X.mg X.base C0 k f fd ps sp) (hgd : g = true → X.A.guards = some []) (hr : Room k X.A) (hg : Gl X x) (hm : X.mg x = some (.ref f)) (hk : PySem.W.keepIn X.K (.ref f) = true) (hb : Binds X.K fd ps ds) (hd : Vals dvs ds) (hx : Passes C0 X E)
    (hdb : (x == ("__debug__" : Str)) = false) : PE X (.Call (.Name x p) [] [] pos) (tCall sp dvs E tNil) :=
  ⟨fun pins s σ H Q I h => wpAny_Call_Name_kw (ld_glob I hg hm (PySem.W.callWith_K0 I.kIn hk (run_p (us := []) F hgd hr hb hd hx I .nil h)) hdb)⟩
variable {kws : List Keyword} {h : List Value → List Value → List Value} {hV : List V → List V → List V}
theorem px_callK (F : FnX g X.prog X.w X.K X.mg X.base C0 k f fd ps sp) (hgd : g = true → X.A.guards = some []) (hr : Room k X.A) (hg : Gl X x) (hm : X.mg x = some (.ref f)) (hk : PySem.W.keepIn X.K (.ref f) = true) (hb : KBinds X.K fd ps ks h hV) (hx : Passes C0 X E)
    (ha : PA X (e :: es) t) (hkw : PK X kws tk) (hall : (backToKw pos (keywordEach kws X.env)).all (·.1.isSome) = true) (hks : (backToKw pos (keywordEach kws X.env)).filterMap (·.1) = ks) (hdb : (x == ("__debug__" : Str)) = false)
    (he : starEach (e :: es) X.env = (false, eval e X.env) :: starEach es X.env) (hpl : ((backTo pos (starEach (e :: es) X.env)).any (·.1) || (backToKw pos (keywordEach kws X.env)).any (·.1.isNone)) = false) : PE X (.Call (.Name x p) (e :: es) kws pos) (tCallK sp hV E t tk) :=
  ⟨fun pins s σ H Q I q => wpAny_Call_Name_kw (ld_glob I hg hm (PySem.W.callWith_KW (h₀ := X.base) I.ok.mod.kin hk hall (thn (ha.run pos pins s σ H _ I q) fun us s1 ⟨vs, H1, I1, r, q1⟩ =>
    thn (hkw.run pos pins s1 σ H1 _ I1 q1) fun ws s2 ⟨zs, H2, I2, rz, q2⟩ => ⟨I2.kIn, by rw [hks]; exact run_x F hgd hr hb hx I2 r rz q2⟩) hpl he) hdb)⟩
theorem px_callK0 (F : FnX g X.prog X.w X.K X.mg X.base C0 k f fd ps sp) (hgd : g = true → X.A.guards = some []) (hr : Room k X.A) (hg : Gl X x) (hm : X.mg x = some (.ref f)) (hk : PySem.W.keepIn X.K (.ref f) = true) (hb : KBinds X.K fd ps ks h hV) (hx : Passes C0 X E)
    (hkw : PK X kws tk) (hall : (backToKw pos (keywordEach kws X.env)).all (·.1.isSome) = true) (hks : (backToKw pos (keywordEach kws X.env)).filterMap (·.1) = ks) (hdb : (x == ("__debug__" : Str)) = false)
    (hpl : ((backTo pos (starEach [] X.env)).any (·.1) || (backToKw pos (keywordEach kws X.env)).any (·.1.isNone)) = false) : PE X (.Call (.Name x p) [] kws pos) (tCallK sp hV E tNil tk) :=
  ⟨fun pins s σ H Q I q => wpAny_Call_Name_kw (ld_glob I hg hm (PySem.W.callWith_KW0 (h₀ := X.base) I.ok.mod.kin hk hall
    (thn (hkw.run pos pins s σ H _ I q) fun ws s2 ⟨zs, H2, I2, rz, q2⟩ => ⟨I2.kIn, by rw [hks]; exact run_x (us := []) F hgd hr hb hx I2 .nil rz q2⟩) hpl) hdb)⟩
end

/-- a def keeps its promise by its body; where g = true the body may use that no guard is taken -/
theorem fnx_of {g : Bool} {C0 : CXT} {P : Program} {w : World} {K : PySem.W.Frag} {mg : Str → Option Value} {base : Heap} {k : Nat} {f : Addr} {name qual : Str} {params : Arguments} {body : List Stmt} {scope : Scope} {dV kV doc pm cdv ct oc : Value} {an od : Option Addr} {osl : Array (Option Value)} {N ps : List Str} {sp : Sp}
    (lk : K.lookup f = some ⟨oc, od, .func (PySem.W.fnOf name qual params body scope dV kV doc pm an cdv ct), osl⟩) (cd : PySem.W.codeIn K cdv qual = true) (S : FnScope N ps scope) (len : ∀ vs H Q E, sp vs H Q E → vs.length = ps.length)
    (by_ : ∀ (A : Around) (out : List Env) (s : Shared) (H : Hp) (vs : List V) (Q : VK) (E : XK), (g = true → A.guards = some []) → Room k (A.deeper (PyProof.Rows.envOfC qual scope s.heap.objs.size f cdv)) → sp vs H Q E →
      ∃ t, PSs (cxOf C0 P w K mg base N qual scope f cdv A out s H E) body t ∧ t { nx := fun _ H' => Q .non H', rt := Q } (start N vs) H) : FnX g P w K mg base C0 (k + 1) f (PySem.W.fnOf name qual params body scope dV kV doc pm an cdv ct) ps sp := by
  refine ⟨len, fun A out s H args us vs Q E hg hr e0 hb r q => ?_⟩
  have hn := len _ _ _ _ q
  have KI : K.In s.heap := e0.mod.kin.keeps fun b o e => (e0.bs b o e).1
  have nl : s.heap.NoLimit := e0.mod.nolimit.keeps fun b o e => (e0.bs b o e).1
  have kinds : ∀ y ∈ ps.zip us, scope.names.lookup y.1 = some .local ∨ (scope.names.lookup y.1 = some .cell ∧ ((cellsFrom (s.heap.objs.size + 1) scope.names []).lookup y.1).isSome = true) := by
    rintro ⟨n, v⟩ hy
    exact (S.par n (List.of_mem_zip hy).1).imp id fun q => ⟨q, PySem.W.cellsFrom_some _ _ _ (.inl q)⟩
  refine codeAny_call_function hr.depth (KI _ _ lk) rfl S.co S.gen rfl (PySem.W.codeRec_of KI cd) (hb _ _ _ _ (wpAny_newFunctionEnv_cells S.kind kinds fun env he s1 x => ?_))
  subst he
  obtain ⟨t, ht, hq⟩ := by_ A out s H vs Q E hg (hr.deeper _) q
  have I := inv_start (CX := C0) (E := E) (P := P) (w := w) (cd := cdv) (qual := qual) (f := f) S hr.hd e0 hn r x
  refine ⟨nl.keeps x.toInCall.keep, codeAny_func (wpAny_mono (ht.run [] s1 (start N vs) H _ I hq) (fun fl s' hs => ?_) fun _ _ hs => hs)⟩
  match fl, hs with
  | .ret u, ⟨v, σ', H', J, rv, q⟩ => exact ⟨v, H', J.os, J.bare, J.base, J.hok, rv, q⟩
  | .next, ⟨σ', H', J, q⟩ => exact ⟨.non, H', J.os, J.bare, J.base, J.hok, rfl, q⟩
  | .brk, ⟨_, _, _, q⟩ => exact q.elim
  | .cont, ⟨_, _, _, q⟩ => exact q.elim

/-! ### repr of plain data -/
def rRepr (K : PySem.W.Frag) : List V → Hp → VK → Prop := fun xs H Q => ∃ x d, xs = [x] ∧ Dp K H x d ∧ d.showable = true ∧ d.hasDict = false ∧ d.depth ≤ 190 ∧ d.shown.length ≤ sizeLine ∧ Q (.str d.shown) H
theorem call_repr_any {X : Cx} (hg : X.A.guards = some []) (hu : X.A.units + 200 < cLine) : CallR X (.builtin "repr") (rRepr X.K) := by
  intro pins s σ H xs us Q I r h
  obtain ⟨x, d, rfl, hd, h1, h2, h3, h4, q⟩ := h
  cases r with
  | cons rx rt =>
    cases rt
    cases hd with
    | non =>
      cases rx
      exact PySem.P.repr_of_none ⟨.str _, H, I.tok _, ⟨_, rfl⟩, q⟩
    | bl b =>
      cases rx
      exact PySem.P.repr_of_bool ⟨.str _, H, I.tok _, ⟨_, rfl⟩, q⟩
    | int i =>
      obtain ⟨t, rfl⟩ := rx
      exact PySem.P.repr_of_int (of_decide_eq_true h1) ⟨.str _, H, I.tok _, ⟨_, rfl⟩, q⟩
    | str z =>
      obtain ⟨t, rfl⟩ := rx
      exact PySem.P.repr_of_str ⟨.str _, H, I.tok _, ⟨_, rfl⟩, q⟩ h4
    | lst hs ha =>
      rename_i a vs ds
      obtain ⟨as, hr⟩ := Dp.reads I (.list ds) (.ref a) _ (.lst hs ha) rx
      cases rx
      exact repr_of_reads' hr h1 (PyData.noDict_hsm h2) hg (by omega) (fun _ _ e => e) (fun h' u tk hk => ⟨.str _, H, I.kept (t' := tk) hk, ⟨_, rfl⟩, q⟩) h4
    | tup hs ha =>
      rename_i a vs ds
      obtain ⟨as, hr⟩ := Dp.reads I (.tuple ds) (.ref a) _ (.tup hs ha) rx
      cases rx
      exact repr_of_reads' hr h1 (PyData.noDict_hsm h2) hg (by omega) (fun _ _ e => e) (fun h' u tk hk => ⟨.str _, H, I.kept (t' := tk) hk, ⟨_, rfl⟩, q⟩) h4
end L3
/-! L3f: built-in calls, methods of lists, statements, targets, loops, comprehensions. -/
namespace L3
open PySem L2 PySem.Spec PyProof.Rows
open PySem (PyData)
section
variable {X : Cx} {E : XK}
theorem rpl_one {K : PySem.W.Frag} {F : Hp} {us : List V} {d : D} (r : RpL K F us [d]) : ∃ u, us = [u] ∧ Rp K F u d := by
  cases r with
  | cons h t =>
    cases t
    exact ⟨_, rfl, h⟩
theorem rpl_two {K : PySem.W.Frag} {F : Hp} {us : List V} {d e : D} (r : RpL K F us [d, e]) : ∃ u v, us = [u, v] ∧ Rp K F u d ∧ Rp K F v e := by
  cases r with
  | cons h t =>
    obtain ⟨v, rfl, h2⟩ := rpl_one t
    exact ⟨_, v, rfl, h, h2⟩

/-! ### built-ins -/
def sRepr : SN := fun ds ω _ k => ∃ d p, ds = [d] ∧ Py ω d p ∧ p.showable = true ∧ p.hasDict = false ∧ p.depth ≤ 190 ∧ p.shown.length ≤ sizeLine ∧ k (.str p.shown) ω
theorem cl_repr (hg : X.A.guards = some []) (hu : X.A.units + 200 < cLine) : CL X E (.builtin "repr") (rRepr X.K) sRepr := ⟨call_repr_any hg hu, fun F H ω us ds x k Q hd r _ ⟨d, p, e, h, h1, h2, h3, h4, q⟩ w => by
  subst e
  obtain ⟨u, rfl, ru⟩ := rpl_one r
  exact ⟨u, p, rfl, h.dp hd ru, h1, h2, h3, h4, w.here q hd (.str _)⟩⟩
def LenD (ω : Store) (d : D) (n : Nat) : Prop := (∃ ds, SqOf ω d ds ∧ n = ds.length) ∨ (∃ ds, d = .tup ds ∧ n = ds.length) ∨ (∃ z, d = .str z ∧ z.length ≤ sizeLine ∧ n = z.length)
def sLen : SN := fun ds ω _ k => ∃ d n, ds = [d] ∧ LenD ω d n ∧ k (.int (n : Int)) ω
def rLen (K : PySem.W.Frag) : List V → Hp → VK → Prop := fun xs H Q => ∃ x n, xs = [x] ∧ LenV K x H n ∧ Q (.int n) H
theorem cl_len : CL X E (.builtin "len") (rLen X.K) sLen := ⟨call_len, fun F H ω us ds x k Q hd r _ ⟨d, n, e, h, q⟩ w => by
  subst e
  obtain ⟨u, rfl, ru⟩ := rpl_one r
  refine ⟨u, n, rfl, ?_, w.here q hd (.int _)⟩
  rcases h with ⟨ds, h, hn⟩ | ⟨ds, h, hn⟩ | ⟨z, h, hz, hn⟩
  · obtain ⟨p, vs, rfl, e, rl⟩ := h.at hd ru
    exact .inl ⟨vs, e, by rw [hn, rl.length]⟩
  · subst h
    obtain ⟨p, vs, rfl, e, rl⟩ := tup_at hd ru
    exact .inr ⟨vs, e, by rw [hn, rl.length]⟩
  · subst h
    rw [ru.str_inv]
    exact ⟨hz, hn⟩⟩
def sAbs : SN := fun ds ω _ k => ∃ i, ds = [.int i] ∧ k (.int (if i < 0 then -i else i)) ω
theorem cl_abs : CL X E (.builtin "abs") (fun xs H Q => ∃ i, xs = [.int i] ∧ Q (.int (if i < 0 then -i else i)) H) sAbs := ⟨call_abs, fun F H ω us ds x k Q hd r _ ⟨i, e, q⟩ w => by
  subst e
  obtain ⟨u, rfl, ru⟩ := rpl_one r
  rw [ru.int_inv]
  exact ⟨i, rfl, w.here q hd (.int _)⟩⟩
def sInt : SN := fun ds ω _ k => (∃ i, ds = [.int i] ∧ k (.int i) ω) ∨ ∃ c, ds = [.bl c] ∧ k (.int (if c then 1 else 0)) ω
theorem cl_int : CL X E (.type "int") (fun xs H Q => (∃ i, xs = [.int i] ∧ Q (.int i) H) ∨ ∃ k, xs = [.bl k] ∧ Q (.int (if k then 1 else 0)) H) sInt := ⟨call_int1, fun F H ω us ds x k Q hd r _ q w => by
  rcases q with ⟨i, e, q⟩ | ⟨i, e, q⟩ <;> subst e <;> obtain ⟨u, rfl, ru⟩ := rpl_one r
  · rw [ru.int_inv]
    exact .inl ⟨i, rfl, w.here q hd (.int _)⟩
  · rw [ru.bl_inv]
    exact .inr ⟨i, rfl, w.here q hd (.int _)⟩⟩
def sMax2 : SN := fun ds ω _ k => ∃ i j, ds = [.int i, .int j] ∧ k (.int (if j > i then j else i)) ω
def sMin2 : SN := fun ds ω _ k => ∃ i j, ds = [.int i, .int j] ∧ k (.int (if j < i then j else i)) ω
theorem cl_max2 (hc : X.calm = true) : CL X E (.builtin "max") (fun xs H Q => ∃ i j, xs = [.int i, .int j] ∧ Q (.int (if j > i then j else i)) H) sMax2 := ⟨call_max2 hc, fun F H ω us ds x k Q hd r _ ⟨i, j, e, q⟩ w => by
  subst e
  obtain ⟨u, v, rfl, ru, rv⟩ := rpl_two r
  rw [ru.int_inv, rv.int_inv]
  exact ⟨i, j, rfl, w.here q hd (.int _)⟩⟩
theorem cl_min2 (hc : X.calm = true) : CL X E (.builtin "min") (fun xs H Q => ∃ i j, xs = [.int i, .int j] ∧ Q (.int (if j < i then j else i)) H) sMin2 := ⟨call_min2 hc, fun F H ω us ds x k Q hd r _ ⟨i, j, e, q⟩ w => by
  subst e
  obtain ⟨u, v, rfl, ru, rv⟩ := rpl_two r
  rw [ru.int_inv, rv.int_inv]
  exact ⟨i, j, rfl, w.here q hd (.int _)⟩⟩
def sMax1 : SN := fun ds ω _ k => ∃ (d : D) (ns : List Int) (m : Int), ds = [d] ∧ SqOf ω d (ns.map D.int) ∧ m ∈ ns ∧ (∀ y ∈ ns, y ≤ m) ∧ k (.int m) ω
theorem cl_max1 (hc : X.calm = true) : CL X E (.builtin "max") (rMax X.K) sMax1 := ⟨cr_max hc, fun F H ω us ds x k Q hd r _ ⟨d, ns, m, e, h, hm, hle, q⟩ w => by
  subst e
  obtain ⟨u, rfl, ru⟩ := rpl_one r
  obtain ⟨p, vs, rfl, e, rl⟩ := h.at hd ru
  rw [rl.ints] at e
  refine ⟨p, ns, rfl, e, List.length_pos_of_mem hm, fun m' h1 h2 => ?_⟩
  have z : m' = m := Int.le_antisymm (hle _ h1) (h2 _ hm)
  subst z
  exact w.here q hd (.int _)⟩
def sMin1 : SN := fun ds ω _ k => ∃ (d : D) (ns : List Int) (m : Int), ds = [d] ∧ SqOf ω d (ns.map D.int) ∧ m ∈ ns ∧ (∀ y ∈ ns, m ≤ y) ∧ k (.int m) ω
theorem cl_min1 (hc : X.calm = true) : CL X E (.builtin "min") (rMin X.K) sMin1 := ⟨cr_min hc, fun F H ω us ds x k Q hd r _ ⟨d, ns, m, e, h, hm, hle, q⟩ w => by
  subst e
  obtain ⟨u, rfl, ru⟩ := rpl_one r
  obtain ⟨p, vs, rfl, e, rl⟩ := h.at hd ru
  rw [rl.ints] at e
  refine ⟨p, ns, rfl, e, List.length_pos_of_mem hm, fun m' h1 h2 => ?_⟩
  have z : m' = m := Int.le_antisymm (h2 _ hm) (hle _ h1)
  subst z
  exact w.here q hd (.int _)⟩
def sSum : SN := fun ds ω _ k => ∃ (d : D) (ns : List Int), ds = [d] ∧ SqOf ω d (ns.map D.int) ∧ k (.int ns.sum) ω
theorem cl_sum (hc : X.calm = true) : CL X E (.builtin "sum") (rSum X.K) sSum := ⟨cr_sum hc, fun F H ω us ds x k Q hd r _ ⟨d, ns, e, h, q⟩ w => by
  subst e
  obtain ⟨u, rfl, ru⟩ := rpl_one r
  obtain ⟨p, vs, rfl, e, rl⟩ := h.at hd ru
  rw [rl.ints] at e
  exact ⟨p, ns, rfl, e, w.here q hd (.int _)⟩⟩
def sAny : SN := fun ds ω _ k => ∃ (d : D) (bs : List Bool), ds = [d] ∧ SqOf ω d (bs.map D.bl) ∧ k (.bl (bs.any id)) ω
def sAll : SN := fun ds ω _ k => ∃ (d : D) (bs : List Bool), ds = [d] ∧ SqOf ω d (bs.map D.bl) ∧ k (.bl (bs.all id)) ω
theorem cl_any (hc : X.calm = true) : CL X E (.builtin "any") (rAny X.K) sAny := ⟨cr_any hc, fun F H ω us ds x k Q hd r _ ⟨d, ns, e, h, q⟩ w => by
  subst e
  obtain ⟨u, rfl, ru⟩ := rpl_one r
  obtain ⟨p, vs, rfl, e, rl⟩ := h.at hd ru
  rw [rl.bls] at e
  exact ⟨p, ns, rfl, e, w.here q hd (.bl _)⟩⟩
theorem cl_all (hc : X.calm = true) : CL X E (.builtin "all") (rAll X.K) sAll := ⟨cr_all hc, fun F H ω us ds x k Q hd r _ ⟨d, ns, e, h, q⟩ w => by
  subst e
  obtain ⟨u, rfl, ru⟩ := rpl_one r
  obtain ⟨p, vs, rfl, e, rl⟩ := h.at hd ru
  rw [rl.bls] at e
  exact ⟨p, ns, rfl, e, w.here q hd (.bl _)⟩⟩
def sTuple : SN := fun ds ω _ k => ∃ d es, ds = [d] ∧ (SqOf ω d es ∨ d = .tup es) ∧ k (.tup es) ω
def rTuple (K : PySem.W.Frag) : List V → Hp → VK → Prop := fun xs H Q => ∃ p ys, xs = [.ref p] ∧ ((SqL K H p ys ∧ ∀ l, H l = none → Q (.ref l) (upd H l (.tup ys))) ∨ (SqT K H p ys ∧ Q (.ref p) H))
theorem cl_tuple : CL X E (.type "tuple") (rTuple X.K) sTuple := ⟨call_tuple_of, fun F H ω us ds x k Q hd r _ ⟨d, es, e, h, q⟩ w => by
  subst e
  obtain ⟨u, rfl, ru⟩ := rpl_one r
  rcases h with h | h
  · obtain ⟨p, vs, rfl, e, rl⟩ := h.at hd ru
    exact ⟨p, vs, rfl, .inl ⟨e, newT_ok hd rl q w⟩⟩
  · subst h
    obtain ⟨p, vs, rfl, e, rl⟩ := tup_at hd ru
    exact ⟨p, vs, rfl, .inr ⟨e, w.here q hd ru⟩⟩⟩
def sList : SN := fun ds ω _ k => ∃ d es, ds = [d] ∧ (SqOf ω d es ∨ d = .tup es) ∧ NewL es ω k
def rList (K : PySem.W.Frag) : List V → Hp → VK → Prop := fun xs H Q => ∃ p ys, xs = [.ref p] ∧ (SqL K H p ys ∨ SqT K H p ys) ∧ ∀ l, H l = none → Q (.ref l) (upd H l (.lst ys))
theorem cl_list : CL X E (.type "list") (rList X.K) sList := ⟨call_list_of, fun F H ω us ds x k Q hd r _ ⟨d, es, e, h, q⟩ w => by
  subst e
  obtain ⟨u, rfl, ru⟩ := rpl_one r
  rcases h with h | h
  · obtain ⟨p, vs, rfl, e, rl⟩ := h.at hd ru
    exact ⟨p, vs, rfl, .inl e, newL_ok hd rl q w⟩
  · subst h
    obtain ⟨p, vs, rfl, e, rl⟩ := tup_at hd ru
    exact ⟨p, vs, rfl, .inr e, newL_ok hd rl q w⟩⟩

/-! ### methods of lists: append, extend, pop -/
abbrev SM := D → List D → Store → KX → KV → Prop
def LfM (K : PySem.W.Frag) (E : XK) (r : V → List V → Hp → VK → Prop) (s : SM) : Prop := ∀ (F H : Hp) (ω : Store) (u : V) (us : List V) (a : D) (ds : List D) (x : KX) (k : KV) (Q : VK), Hd K F H ω → Rp K F u a → RpL K F us ds → LX K F E x → s a ds ω x k → WV K F k Q → r u us H Q
/-- a list that may change; one that is read -/
def dBM (s : SM) (to : LTE) (ta : LTA) : LTE := fun ρ ω x k => to ρ ω x fun a ω1 => (∃ ds, SqOf ω1 a ds) ∧ ta ρ ω1 x fun ds ω2 => s a ds ω2 x k
def dBM0 (s : SM) (to : LTE) : LTE := fun ρ ω x k => to ρ ω x fun a ω1 => (∃ ds, SqOf ω1 a ds) ∧ s a [] ω1 x k
theorem lf_bm {r : V → List V → Hp → VK → Prop} {s : SM} {to : TE} {t : TA} {d : LTE} {da : LTA} (hs : LfM X.K E r s) (ho : LfE X.K E to d) (ha : LfA X.K E t da) : LfE X.K E (tBM X.K "list" r to t) (dBM s d da) := fun F H σ ρ ω x k Q hd hr lx q w =>
  ho F H σ ρ ω x _ _ hd hr lx q fun v a F1 H1 ω1 ⟨⟨es, h⟩, q1⟩ s1 hd1 r1 => by
    refine ⟨?_, ha F1 H1 σ ρ ω1 x _ _ hd1 (hr.mono s1) (lx.mono s1) q1 fun vs ds F2 H2 ω2 q2 s2 hd2 r2 => hs F2 H2 ω2 v vs a ds x k Q hd2 (r1.mono s2) r2 ((lx.mono s1).mono s2) q2 ((w.mono s1).mono s2)⟩
    obtain ⟨p, us, rfl, e, rl⟩ := h.at hd1 r1
    exact .inl ⟨rfl, us, e⟩
theorem lf_bm0 {r : V → List V → Hp → VK → Prop} {s : SM} {to : TE} {d : LTE} (hs : LfM X.K E r s) (ho : LfE X.K E to d) : LfE X.K E (tBM0 X.K "list" r to) (dBM0 s d) := fun F H σ ρ ω x k Q hd hr lx q w =>
  ho F H σ ρ ω x _ _ hd hr lx q fun v a F1 H1 ω1 ⟨⟨es, h⟩, q1⟩ s1 hd1 r1 => by
    refine ⟨?_, hs F1 H1 ω1 v [] a [] x k Q hd1 r1 .nil (lx.mono s1) q1 (w.mono s1)⟩
    obtain ⟨p, us, rfl, e, rl⟩ := h.at hd1 r1
    exact .inl ⟨rfl, us, e⟩
def sAppend : SM := fun a ds ω _ k => ∃ p es d, a = .ptr p ∧ ds = [d] ∧ ω p = some (.lst es) ∧ es.length < sizeLine ∧ k .non (sup ω p (.lst (es ++ [d])))
theorem lf_append : LfM X.K E rAppend sAppend := fun F H ω u us a ds x k Q hd ra rs _ ⟨p, es, d, h1, h2, h3, h4, q⟩ w => by
  subst h1 h2
  obtain ⟨y, rfl, ry⟩ := rpl_one rs
  obtain ⟨_, o, e2, ok⟩ := hd.cell _ _ h3
  cases ok with
  | lst rl => exact ⟨p, _, y, ra.ptr_inv, rfl, e2, by rw [rl.length]; exact h4, w.here q (hd.put h3 (.lst (rl.append (.cons ry .nil)))) .non⟩
def sExtend : SM := fun a ds ω _ k => ∃ p es d fs, a = .ptr p ∧ ds = [d] ∧ ω p = some (.lst es) ∧ LstOf ω d fs ∧ es.length + fs.length ≤ sizeLine ∧ k .non (sup ω p (.lst (es ++ fs)))
theorem lf_extend : LfM X.K E rExtend sExtend := fun F H ω u us a ds x k Q hd ra rs _ ⟨p, es, d, fs, h1, h2, h3, h5, h4, q⟩ w => by
  subst h1 h2
  obtain ⟨y, rfl, ry⟩ := rpl_one rs
  obtain ⟨_, o, e2, ok⟩ := hd.cell _ _ h3
  obtain ⟨b, vs, rfl, eb, rb⟩ := h5.at hd ry
  cases ok with
  | lst rl => exact ⟨p, b, _, vs, ra.ptr_inv, rfl, e2, eb, by rw [rl.length, rb.length]; exact h4, w.here q (hd.put h3 (.lst (rl.append rb))) .non⟩
def sPop : SM := fun a ds ω _ k => ∃ p es d, a = .ptr p ∧ ds = [] ∧ ω p = some (.lst (es ++ [d])) ∧ k d (sup ω p (.lst es))
theorem rpl_snoc {K : PySem.W.Frag} {F : Hp} : ∀ {vs : List V} {es : List D} {d : D}, RpL K F vs (es ++ [d]) → ∃ us v, vs = us ++ [v] ∧ RpL K F us es ∧ Rp K F v d
  | _, [], d, r => by
    obtain ⟨u, rfl, ru⟩ := rpl_one r
    exact ⟨[], u, rfl, .nil, ru⟩
  | _, e :: es, d, .cons r t => by
    obtain ⟨us, v, rfl, h1, h2⟩ := rpl_snoc t
    exact ⟨_ :: us, v, rfl, .cons r h1, h2⟩
theorem lf_pop : LfM X.K E rPop sPop := fun F H ω u us a ds x k Q hd ra rs _ ⟨p, es, d, h1, h2, h3, q⟩ w => by
  subst h1 h2
  cases rs
  obtain ⟨_, o, e2, ok⟩ := hd.cell _ _ h3
  cases ok with
  | lst rl =>
    obtain ⟨us, v, rfl, h5, h6⟩ := rpl_snoc rl
    refine ⟨p, _, v, ra.ptr_inv, rfl, e2, by simp, ?_⟩
    rw [List.dropLast_concat]
    exact w.here q (hd.put h3 (.lst h5)) h6
variable {e o : Expr} {es : List Expr} {te to : TE} {de do_ : LTE} {tA : TA} {dA : LTA} {pos apos cpos : Pos}
theorem xe_append (ho : XE X E o to do_) (ha : XA X E (e :: es) tA dA) (hbase : attributeBase o "append" X.env (eval o X.env) = eval o X.env := by rfl)
    (hfew : ((backTo cpos (starEach (e :: es) X.env)).all (fun x => !x.1) && (backToKw cpos (keywordEach [] X.env)).all (fun x => x.1.isSome)
      && decide ((e :: es).length + ([] : List Keyword).length + (if ([] : List Keyword).isEmpty then 0 else 1) < 30)) = true := by rfl)
    (hline : (apos.endLine == cpos.line) = true := by rfl) (hs : starEach (e :: es) X.env = (false, eval e X.env) :: starEach es X.env := by rfl) (hplain : (backTo cpos (starEach es X.env)).any (·.1) = false := by rfl) :
    XE X E (.Call (.Attribute o "append" apos) (e :: es) [] cpos) (tBM X.K "list" rAppend to tA) (dBM sAppend do_ dA) := ⟨pe_bm PySem.F.plainAttrs_list PySem.F.slot_list_append PySem.F.type_list_append mt_append ho.pe ha.pe hbase hfew hline hs hplain, lf_bm lf_append ho.lf ha.lf⟩
theorem xe_extend (ho : XE X E o to do_) (ha : XA X E (e :: es) tA dA) (hbase : attributeBase o "extend" X.env (eval o X.env) = eval o X.env := by rfl)
    (hfew : ((backTo cpos (starEach (e :: es) X.env)).all (fun x => !x.1) && (backToKw cpos (keywordEach [] X.env)).all (fun x => x.1.isSome)
      && decide ((e :: es).length + ([] : List Keyword).length + (if ([] : List Keyword).isEmpty then 0 else 1) < 30)) = true := by rfl)
    (hline : (apos.endLine == cpos.line) = true := by rfl) (hs : starEach (e :: es) X.env = (false, eval e X.env) :: starEach es X.env := by rfl) (hplain : (backTo cpos (starEach es X.env)).any (·.1) = false := by rfl) :
    XE X E (.Call (.Attribute o "extend" apos) (e :: es) [] cpos) (tBM X.K "list" rExtend to tA) (dBM sExtend do_ dA) := ⟨pe_bm PySem.F.plainAttrs_list PySem.F.slot_list_extend PySem.F.type_list_extend mt_extend ho.pe ha.pe hbase hfew hline hs hplain, lf_bm lf_extend ho.lf ha.lf⟩
theorem xe_pop (ho : XE X E o to do_) (hbase : attributeBase o "pop" X.env (eval o X.env) = eval o X.env := by rfl) (hline : (apos.endLine == cpos.line) = true := by rfl) :
    XE X E (.Call (.Attribute o "pop" apos) [] [] cpos) (tBM0 X.K "list" rPop to) (dBM0 sPop do_) := ⟨pe_bm0 PySem.F.plainAttrs_list PySem.F.slot_list_pop PySem.F.type_list_pop mt_pop ho.pe hbase hline, lf_bm0 lf_pop ho.lf⟩
end
end L3
/-! L3g: statements, targets, loops, comprehensions. -/
namespace L3
open PySem L2 PySem.Spec PyProof.Rows
open PySem (PyData)
theorem WN.here {K : PySem.W.Frag} {F H : Hp} {k : Rho → Store → Prop} {Q : L2.St → Hp → Prop} (h : WN K F k Q) {σ : L2.St} {ρ : Rho} {ω : Store} (q : k ρ ω) (hd : Hd K F H ω) (r : Rn K F σ ρ) : Q σ H := h σ ρ F H ω q (same_refl F) hd r
section
variable {X : Cx} {E : XK}

/-! ### targets -/
abbrev LTG := D → Rho → Store → KX → (Rho → Store → Prop) → Prop
abbrev LTGs := List D → Rho → Store → KX → (Rho → Store → Prop) → Prop
def LfG (K : PySem.W.Frag) (E : XK) (tg : TG) (g : LTG) : Prop := ∀ (F H : Hp) (σ : L2.St) (ρ : Rho) (ω : Store) (v : V) (d : D) (x : KX) (k : Rho → Store → Prop) (Q : L2.St → Hp → Prop), Hd K F H ω → Rn K F σ ρ → Rp K F v d → LX K F E x → g d ρ ω x k → WN K F k Q → tg v σ H Q
def LfGs (K : PySem.W.Frag) (E : XK) (tg : TGs) (g : LTGs) : Prop := ∀ (F H : Hp) (σ : L2.St) (ρ : Rho) (ω : Store) (vs : List V) (ds : List D) (x : KX) (k : Rho → Store → Prop) (Q : L2.St → Hp → Prop), Hd K F H ω → Rn K F σ ρ → RpL K F vs ds → LX K F E x → g ds ρ ω x k → WN K F k Q → tg vs σ H Q
structure XG (X : Cx) (E : XK) (e : Expr) (tg : TG) (g : LTG) : Prop where
  pg : PG X e tg
  lf : LfG X.K E tg g
structure XGs (X : Cx) (E : XK) (es : List Expr) (tg : TGs) (g : LTGs) : Prop where
  pg : PGs X es tg
  lf : LfGs X.K E tg g
def gdName (i : Nat) : LTG := fun d ρ ω _ k => k (ρ.set i (some d)) ω
theorem xg_name {i : Nat} {x : Str} {pos : Pos} (hN : X.N.Nodup) (hi : X.N[i]? = some x := by rfl) (hx : Loc X.env.scope x := by first | exact Or.inl rfl | exact Or.inr rfl)
    (hf : X.fn x = true ∨ X.env.scope.names.lookup x = some .local := by first | exact .inl rfl | exact .inr rfl | assumption) : XG X E (.Name x pos) (gName i) (gdName i) :=
  ⟨pg_name hN hi hx hf, fun F H σ ρ ω v d x k Q hd hr r _ q w => w.here q hd (hr.set r i)⟩
def gdNil : LTGs := fun ds ρ ω _ k => ds = [] ∧ k ρ ω
def gdCons (g : LTG) (gs : LTGs) : LTGs := fun ds ρ ω x k => ∃ d r, ds = d :: r ∧ g d ρ ω x fun ρ1 ω1 => gs r ρ1 ω1 x k
theorem xgs_nil : XGs X E [] gNil gdNil := ⟨pgs_nil, fun F H σ ρ ω vs ds x k Q hd hr r _ ⟨e, q⟩ w => by
  subst e
  cases r
  exact ⟨rfl, w.here q hd hr⟩⟩
theorem xgs_cons {e : Expr} {es : List Expr} {tg : TG} {tgs : TGs} {g : LTG} {gs : LTGs} (h : XG X E e tg g) (h' : XGs X E es tgs gs) (hs : (assignEach (e :: es) X.env).map (·.2) = assign e X.env :: (assignEach es X.env).map (·.2) := by rfl) : XGs X E (e :: es) (gCons tg tgs) (gdCons g gs) :=
  ⟨pgs_cons h.pg h'.pg hs, fun F H σ ρ ω vs ds x k Q hd hr r lx ⟨d, dr, e, q⟩ w => by
    subst e
    cases r with
    | cons r rr => exact ⟨_, _, rfl, h.lf F H σ ρ ω _ d x _ _ hd hr r lx q fun σ1 ρ1 F1 H1 ω1 q1 s1 hd1 hr1 => h'.lf F1 H1 σ1 ρ1 ω1 _ dr x k Q hd1 hr1 (rr.mono s1) (lx.mono s1) q1 (w.mono s1)⟩⟩
/-- (a, b, ..) = a tuple or a list of that length -/
def gdTup (n : Nat) (gs : LTGs) : LTG := fun d ρ ω x k => ∃ ds, (d = .tup ds ∨ SqOf ω d ds) ∧ ds.length = n ∧ gs ds ρ ω x k
def gAnyT (K : PySem.W.Frag) (n : Nat) (t : TGs) : TG := fun v σ H Q => gTup K n t v σ H Q ∨ gLst K n t v σ H Q
theorem xg_tup {es : List Expr} {kk : Nat} {pos : Pos} {n : Nat} {tgs : TGs} {gs : LTGs} (hc : X.calm = true) (h : XGs X E es tgs gs) (hn : (assignEach es X.env).length = n := by rfl) (hst : (assignEach es X.env).findIdx? (·.1) = none := by rfl) : XG X E (.Tuple es kk pos) (gAnyT X.K n tgs) (gdTup n gs) := by
  refine ⟨⟨fun pins s σ H v u Q I r q => ?_⟩, fun F H σ ρ ω v d x k Q hd hr r lx ⟨ds, h1, h2, q⟩ w => ?_⟩
  · rcases q with q | q
    · exact (pg_tup (pos := pos) (k := kk) hc h.pg hn hst).run pins s σ H v u Q I r q
    · exact (pg_lst (pos := pos) (k := kk) hc h.pg hn hst).run pins s σ H v u Q I r q
  · rcases h1 with h1 | h1
    · subst h1
      obtain ⟨p, vs, rfl, e, rl⟩ := tup_at hd r
      exact .inl ⟨p, vs, rfl, e, by rw [rl.length, h2], h.lf F H σ ρ ω vs ds x k Q hd hr rl lx q w⟩
    · obtain ⟨p, vs, rfl, e, rl⟩ := h1.at hd r
      exact .inr ⟨p, vs, rfl, e, by rw [rl.length, h2], h.lf F H σ ρ ω vs ds x k Q hd hr rl lx q w⟩
/-- o[i] = v, by values -/
abbrev SSet := D → D → D → Store → (Store → Prop) → Prop
def sSetL : SSet := fun o i d ω k => ∃ p ds j n, o = .ptr p ∧ i = .int j ∧ ω p = some (.lst ds) ∧ ixN ds.length j = some n ∧ k (sup ω p (.lst (ds.set n d)))
def sSetK : SSet := fun o i d ω k => ∃ p kvs kk, o = .ptr p ∧ i = kD kk ∧ ω p = some (.dK kvs) ∧ kvs.length < sizeLine ∧ k (sup ω p (.dK (putD kvs kk d)))
def sSet : SSet := fun o i d ω k => sSetL o i d ω k ∨ sSetK o i d ω k
def rSetA : TSet := fun o i v H Q => rSetL o i v H Q ∨ rSetD o i v H Q
theorem set_lf {F H : Hp} {ω : Store} (hd : Hd X.K F H ω) {vo vi v : V} {o i d : D} {k : Store → Prop} {Q : Hp → Prop} (ro : Rp X.K F vo o) (ri : Rp X.K F vi i) (r : Rp X.K F v d) (q : sSet o i d ω k) (w : ∀ H' ω', k ω' → Hd X.K F H' ω' → Q H') : rSetA vo vi v H Q := by
  rcases q with ⟨p, ds, j, n, e1, e2, e3, e4, q⟩ | ⟨p, kvs, kk, e1, e2, e3, e4, q⟩ <;> subst e1 e2
  · obtain ⟨_, oo, e5, ok⟩ := hd.cell _ _ e3
    cases ok with
    | lst rl => exact .inl ⟨p, _, j, n, ro.ptr_inv, ri.int_inv, e5, by rw [rl.length]; exact e4, w _ _ q (hd.put e3 (.lst (RpL.set r n rl)))⟩
  · obtain ⟨_, oo, e5, ok⟩ := hd.cell _ _ e3
    cases ok with
    | dK rl =>
      refine .inr ⟨p, _, ro.ptr_inv, .inl ⟨_, kk, e5, kD_rp ri, ?_, rfl⟩, w _ _ q (hd.put e3 (.dK (kvR_put r rl)))⟩
      rw [paired_len rl]
      exact e4
def gdSub (to ti : LTE) : LTG := fun d ρ ω x k => to ρ ω x fun o ω1 => ti ρ ω1 x fun i ω2 => sSet o i d ω2 fun ω3 => k ρ ω3
theorem xg_sub {o i : Expr} {pos : Pos} {to ti : TE} {do_ di : LTE} (hu : X.A.units + 1 < cLine) (ho : XE X E o to do_) (hi : XE X E i ti di) (ha : ∀ v, assign (.Subscript o i pos) X.env v = (do let ov ← holding [v] (eval o X.env); let iv ← holding [v, ov] (eval i X.env); standAt pos; holding [v, ov, iv] (setItem ov iv v); release [v, ov, iv] []) := by intro _; rfl) : XG X E (.Subscript o i pos) (gSub to ti rSetA) (gdSub do_ di) :=
  ⟨pg_sub ho.pe hi.pe (fun pins s σ H o i v ov iv u Q I ro ri rv h => h.elim (fun h => set_list pins s σ H o i v ov iv u Q I ro ri rv h) fun h => set_dict hu pins s σ H o i v ov iv u Q I ro ri rv h) ha,
    fun F H σ ρ ω v d x k Q hd hr r lx q w => ho.lf F H σ ρ ω x _ _ hd hr lx q fun vo o F1 H1 ω1 q1 s1 hd1 ro => hi.lf F1 H1 σ ρ ω1 x _ _ hd1 (hr.mono s1) (lx.mono s1) q1 fun vi i F2 H2 ω2 q2 s2 hd2 ri =>
      set_lf hd2 (ro.mono s2) ri (r.mono (same_tr s1 s2)) q2 fun H3 ω3 q3 hd3 => w _ _ _ _ _ q3 (same_tr s1 s2) hd3 (hr.mono (same_tr s1 s2))⟩

/-! ### statements -/
variable {e : Expr} {te : TE} {t : LTE} {pos : Pos} {st : Stmt} {rest : List Stmt} {ts us : TS} {d u : LTS}
def dNext : LTS := fun L ρ ω => L.nx ρ ω
def dSeq (d u : LTS) : LTS := fun L ρ ω => d { L with nx := u L } ρ ω
theorem xss_nil : XSs X E [] tNext dNext := ⟨pss_nil, fun F H σ ρ ω L D hd hr q w => w.nx.here q hd hr⟩
theorem xss_cons (h : XS X E st ts d) (h' : XSs X E rest us u) : XSs X E (st :: rest) (tSeq ts us) (dSeq d u) := ⟨pss_cons h.pe h'.pe, fun F H σ ρ ω L D hd hr q w =>
  h.lf F H σ ρ ω _ _ hd hr q ⟨fun σ1 ρ1 F1 H1 ω1 q1 s1 hd1 hr1 => h'.lf F1 H1 σ1 ρ1 ω1 L D hd1 hr1 q1 (w.mono s1), w.rt, w.xc, w.bk, w.ct⟩⟩
theorem xss_one (h : XS X E st ts d) : XSs X E [st] ts d := ⟨pss_one h.pe, h.lf⟩
def dRet (t : LTE) : LTS := fun L ρ ω => t ρ ω L.xc L.rt
theorem xs_ret (h : XE X E e te t) : XS X E (.Return (some e) pos) (tRet te) (dRet t) := ⟨ps_ret h.pe, fun F H σ ρ ω L D hd hr q w => h.lf F H σ ρ ω L.xc _ _ hd hr w.xc q w.rt⟩
def dRetN : LTS := fun L _ ω => L.rt .non ω
theorem xs_retN : XS X E (.Return none pos) tRetN dRetN := ⟨ps_retN, fun F H σ ρ ω L D hd hr q w => w.rt.here q hd .non⟩
def dDrop (t : LTE) : LTS := fun L ρ ω => t ρ ω L.xc fun _ ω1 => L.nx ρ ω1
theorem xs_expr (h : XE X E e te t) (hs : swapsWith e none pos.line X.env = pure false := by rfl) : XS X E (.Expr e pos) (tDrop te) (dDrop t) := ⟨ps_expr h.pe hs, fun F H σ ρ ω L D hd hr q w =>
  h.lf F H σ ρ ω L.xc _ _ hd hr w.xc q fun v a F1 H1 ω1 q1 s1 hd1 _ => w.nx _ _ _ _ _ q1 s1 hd1 (hr.mono s1)⟩
def dIfS (c : LTT) (d u : LTS) : LTS := fun L ρ ω => c ρ ω L.xc fun b ω1 => if b = true then d L ρ ω1 else u L ρ ω1
theorem xs_if {c : Expr} {a b : List Stmt} {tc : TT} {dc : LTT} (hc : XT X E c tc dc) (ha : XSs X E a ts d) (hb : XSs X E b us u) : XS X E (.If c a b pos) (tIfS tc ts us) (dIfS dc d u) := ⟨ps_if hc.pe ha.pe hb.pe, fun F H σ ρ ω L D hd hr q w =>
  hc.lf F H σ ρ ω L.xc _ _ hd hr w.xc q fun c F1 H1 ω1 q1 s1 hd1 => by
    cases c with
    | true => exact ha.lf F1 H1 σ ρ ω1 L D hd1 (hr.mono s1) q1 (w.mono s1)
    | false => exact hb.lf F1 H1 σ ρ ω1 L D hd1 (hr.mono s1) q1 (w.mono s1)⟩
theorem xs_pass : XS X E (.Pass pos) tNext dNext := ⟨ps_pass, fun F H σ ρ ω L D hd hr q w => w.nx.here q hd hr⟩
def dBreak : LTS := fun L ρ ω => L.bk ρ ω
def dCont : LTS := fun L ρ ω => L.ct ρ ω
theorem xs_break : XS X E (.Break pos) tBreak dBreak := ⟨ps_break, fun F H σ ρ ω L D hd hr q w => w.bk.here q hd hr⟩
theorem xs_cont : XS X E (.Continue pos) tCont dCont := ⟨ps_continue, fun F H σ ρ ω L D hd hr q w => w.ct.here q hd hr⟩
/-- code that is never come to -/
def dNever : LTS := fun _ _ _ => False
theorem xs_never : XS X E st tNever dNever := ⟨ps_never, fun _ _ _ _ _ _ _ _ _ q _ => q.elim⟩
def dAsg (t : LTE) (g : LTG) : LTS := fun L ρ ω => t ρ ω L.xc fun a ω1 => g a ρ ω1 L.xc L.nx
theorem lf_asg {tg : TG} {g : LTG} (h : LfE X.K E te t) (hg : LfG X.K E tg g) : LfS X.K E (tAsg te tg) (dAsg t g) := fun F H σ ρ ω L D hd hr q w =>
  h F H σ ρ ω L.xc _ _ hd hr w.xc q fun v a F1 H1 ω1 q1 s1 hd1 r1 => hg F1 H1 σ ρ ω1 v a L.xc _ _ hd1 (hr.mono s1) r1 (w.xc.mono s1) q1 (w.nx.mono s1)
theorem xs_asg {tg : Expr} {ttg : TG} {g : LTG} (h : XE X E e te t) (hg : XG X E tg ttg g) (hs : swapsWithSole [tg] e pos.line X.env = pure false := by rfl) (hw : swappedStores [tg] e X.env = pure none := by rfl)
    (h1 : (assignEach [tg] X.env).map (·.2) = [assign tg X.env] := by rfl) : XS X E (.Assign [tg] e pos) (tAsg te ttg) (dAsg t g) := ⟨ps_asg h.pe hg.pg hs hw h1, lf_asg h.lf hg.lf⟩
theorem xs_set {i : Nat} {x : Str} {pos' : Pos} (hN : X.N.Nodup) (h : XE X E e te t) (hi : X.N[i]? = some x := by rfl) (hx : Loc X.env.scope x := by first | exact Or.inl rfl | exact Or.inr rfl) (hs : swapsWith e (some (.Name x pos')) pos.line X.env = pure false := by rfl)
    (hf : X.fn x = true ∨ X.env.scope.names.lookup x = some .local := by first | exact .inl rfl | exact .inr rfl | assumption) : XS X E (.Assign [.Name x pos'] e pos) (tAsg te (gName i)) (dAsg t (gdName i)) :=
  ⟨ps_set hN hi hx h.pe hs hf, lf_asg h.lf fun F H σ ρ ω v d x k Q hd hr r _ q w => w.here q hd (hr.set r i)⟩
/-- a, b = x, y -/
def dPar (i j : Nat) (t : LTA) : LTS := fun L ρ ω => t ρ ω L.xc fun ds ω1 => ∃ a b, ds = [a, b] ∧ L.nx ((ρ.set i (some a)).set j (some b)) ω1
theorem xs_par {i j : Nat} {x y : Str} {a b : Expr} {ta : TA} {da : LTA} {px py pt : Pos} {kt k2 pt2} (hc : X.calm = true) (hN : X.N.Nodup) (ha : XA X E [a, b] ta da) (hw : swappedStores [.Tuple [.Name x px, .Name y py] kt pt] (.Tuple [a, b] k2 pt2) X.env = pure (some [x, y]) := by rfl) (hss : swapsWithSole [.Tuple [.Name x px, .Name y py] kt pt] (.Tuple [a, b] k2 pt2) pos.line X.env = pure false := by rfl) (hi : X.N[i]? = some x := by rfl) (hj : X.N[j]? = some y := by rfl) (hij : i ≠ j := by decide)
    (hx : X.env.scope.names.lookup x = some .local := by rfl) (hy : X.env.scope.names.lookup y = some .local := by rfl) : XS X E (.Assign [.Tuple [.Name x px, .Name y py] kt pt] (.Tuple [a, b] k2 pt2) pos) (tPar i j ta) (dPar i j da) :=
  ⟨ps_par hc hN hi hj hij hx hy ha.pe hw hss, fun F H σ ρ ω L D hd hr q w => ha.lf F H σ ρ ω L.xc _ _ hd hr w.xc q fun vs ds F1 H1 ω1 ⟨a, b, e, q1⟩ s1 hd1 r1 => by
    subst e
    obtain ⟨v, u, rfl, rv, ru⟩ := rpl_two r1
    exact ⟨v, u, rfl, w.nx _ _ _ _ _ q1 s1 hd1 (((hr.mono s1).set rv i).set ru j)⟩⟩

/-! ### what is walked -/
/-- J walks the items ds as long as the store is so -/
structure Walk (K : PySem.W.Frag) (F : Hp) (J : It) (ds : List D) (stab : Store → Prop) : Prop where
  go : ∀ i F' H ω, Same F F' → Hd K F' H ω → stab ω → i < ds.length → J.go i H
  yld : ∀ i v F' H H' ω, Same F F' → Hd K F' H ω → stab ω → J.yld i H v H' → i < ds.length → ∃ F2 d, Same F' F2 ∧ Hd K F2 H' ω ∧ ds[i]? = some d ∧ Rp K F2 v d
  stop : ∀ F' H ω, Same F F' → Hd K F' H ω → stab ω → J.stop ds.length H
abbrev KI := List D → (Store → Prop) → Store → Prop
abbrev LTI := Rho → Store → KX → KI → Prop
def LfI (K : PySem.W.Frag) (E : XK) (wi : TI) (t : LTI) : Prop := ∀ (F H : Hp) (σ : L2.St) (ρ : Rho) (ω : Store) (x : KX) (k : KI) (R : It → Hp → Prop), Hd K F H ω → Rn K F σ ρ → LX K F E x → t ρ ω x k →
  (∀ ds stab F' H' ω' J, k ds stab ω' → Same F F' → Hd K F' H' ω' → Walk K F' J ds stab → R J H') → wi σ H R
structure XI (X : Cx) (E : XK) (tg iter : Expr) (wi : TI) (t : LTI) : Prop where
  pe : PI X tg iter wi
  lf : LfI X.K E wi t
/-- over a list or a tuple -/
def iSeq (K : PySem.W.Frag) (tl : TE) : TI := fun σ H R => tl σ H fun x H1 => ∃ a, x = .ref a ∧ (((∃ xs, SqL K H1 a xs) ∧ R (Itl K a) H1) ∨ ((∃ xs, SqT K H1 a xs) ∧ R (Itt K a) H1))
def stL (d : D) (ds : List D) : Store → Prop := fun ω => SqOf ω d ds
def diSeq (t : LTE) : LTI := fun ρ ω x k => t ρ ω x fun d ω1 => ∃ ds, (SqOf ω1 d ds ∧ k ds (stL d ds) ω1) ∨ (d = .tup ds ∧ k ds (fun _ => True) ω1)
theorem pi_seq {tg l : Expr} {tl : TE} (hl : PE X l tl) : PI X tg l (iSeq X.K tl) := by
  refine ⟨fun pins s σ H R I h => thn (hl.run pins s σ H _ I h) fun v s1 q1 => ?_⟩
  obtain ⟨x, H1, I1, r1, a, rfl, q⟩ := q1
  obtain rfl : v = Value.ref a := r1
  have fresh : ∀ b ∈ [s1.heap.objs.size], FpOk X pins H1 b := by
    intro b hb
    obtain rfl := List.mem_singleton.mp hb
    exact I1.fpOk (Nat.le_refl _) (I1.hok.fresh (Nat.le_refl _))
  rcases q with ⟨⟨ys, hq⟩, q⟩ | ⟨⟨ys, hq⟩, q⟩
  · obtain ⟨its, _, pl, _⟩ := I1.list hq
    exact wpAny_pyIter_list pl.isList ⟨_, _, _, _, H1, rfl, I1.kept (t' := s1.toks) fun b o eb => Heap.get?_push_of_some _ eb, turn_list a _, ⟨_, Heap.get?_push_size _ rfl, rfl, rfl⟩, fresh, q⟩
  · obtain ⟨its, _, pl, _⟩ := I1.tuple hq
    exact wpAny_pyIter_tuple (show s1.heap.IsTuple a its.toArray from pl) ⟨_, _, _, _, H1, rfl, I1.kept (t' := s1.toks) fun b o eb => Heap.get?_push_of_some _ eb, turn_tuple a _, ⟨_, Heap.get?_push_size _ rfl, rfl, rfl⟩, fresh, q⟩
theorem walk_list {K : PySem.W.Frag} {F : Hp} {a : Addr} {d : D} {ds : List D} (r : Rp K F (.ref a) d) : Walk K F (Itl K a) ds (stL d ds) := by
  refine ⟨fun i F' H ω s hd st hi => ?_, fun i v F' H H' ω s hd st y hi => ?_, fun F' H ω s hd st => ?_⟩
  · obtain ⟨p, vs, e, sq, rl⟩ := SqOf.at hd (r.mono s) st
    cases e
    have hl : i < vs.length := by rw [rl.length]; exact hi
    exact ⟨vs, vs[i], sq, List.getElem?_eq_getElem hl⟩
  · obtain ⟨p, vs, e, sq, rl⟩ := SqOf.at hd (r.mono s) st
    cases e
    obtain ⟨rfl, hv⟩ := y
    obtain ⟨dd, h1, h2⟩ := rl.get' (hv vs sq)
    exact ⟨F', dd, same_refl _, hd, h1, h2⟩
  · obtain ⟨p, vs, e, sq, rl⟩ := SqOf.at hd (r.mono s) st
    cases e
    exact ⟨vs, sq, Nat.le_of_eq rl.length⟩
theorem walk_tup {K : PySem.W.Frag} {F : Hp} {a : Addr} {ds : List D} (r : Rp K F (.ref a) (.tup ds)) : Walk K F (Itt K a) ds (fun _ => True) := by
  refine ⟨fun i F' H ω s hd st hi => ?_, fun i v F' H H' ω s hd st y hi => ?_, fun F' H ω s hd st => ?_⟩
  · obtain ⟨p, vs, e, sq, rl⟩ := tup_at hd (r.mono s)
    cases e
    have hl : i < vs.length := by rw [rl.length]; exact hi
    exact ⟨vs, vs[i], sq, List.getElem?_eq_getElem hl⟩
  · obtain ⟨p, vs, e, sq, rl⟩ := tup_at hd (r.mono s)
    cases e
    obtain ⟨rfl, hv⟩ := y
    obtain ⟨dd, h1, h2⟩ := rl.get' (hv vs sq)
    exact ⟨F', dd, same_refl _, hd, h1, h2⟩
  · obtain ⟨p, vs, e, sq, rl⟩ := tup_at hd (r.mono s)
    cases e
    exact ⟨vs, sq, Nat.le_of_eq rl.length⟩
theorem xi_seq {tg l : Expr} {tl : TE} {dl : LTE} (h : XE X E l tl dl) : XI X E tg l (iSeq X.K tl) (diSeq dl) := ⟨pi_seq h.pe, fun F H σ ρ ω x k R hd hr lx q w =>
  h.lf F H σ ρ ω x _ _ hd hr lx q fun v d F1 H1 ω1 ⟨ds, q1⟩ s1 hd1 r1 => by
    rcases q1 with ⟨h1, q1⟩ | ⟨h1, q1⟩
    · obtain ⟨p, vs, rfl, e, rl⟩ := h1.at hd1 r1
      exact ⟨p, rfl, .inl ⟨⟨vs, e⟩, w _ _ _ _ _ _ q1 s1 hd1 (walk_list r1)⟩⟩
    · subst h1
      obtain ⟨p, vs, rfl, e, rl⟩ := tup_at hd1 r1
      exact ⟨p, rfl, .inr ⟨⟨vs, e⟩, w _ _ _ _ _ _ q1 s1 hd1 (walk_tup r1)⟩⟩⟩
/-- over range(n), range(a, b) -/
def rngD (lo : Int) (n : Nat) : List D := (List.range n).map fun i => .int (lo + (i : Nat))
theorem walk_range {K : PySem.W.Frag} {F : Hp} {lo : Int} {n : Nat} : Walk K F (Itr lo n) (rngD lo n) (fun _ => True) := by
  have hl : (rngD lo n).length = n := by unfold rngD; rw [List.length_map, List.length_range]
  refine ⟨fun i F' H ω s hd st hi => ?_, fun i v F' H H' ω s hd st y hi => ?_, fun F' H ω s hd st => ?_⟩
  · rw [hl] at hi
    exact hi
  · rw [hl] at hi
    obtain ⟨rfl, rfl⟩ := y
    refine ⟨F', .int (lo + (i : Nat)), same_refl _, hd, ?_, .int _⟩
    unfold rngD
    rw [List.getElem?_map, List.getElem?_range hi] <;> rfl
  · rw [hl]
    exact Nat.le_refl n
def diR1 (t : LTA) : LTI := fun ρ ω x k => t ρ ω x fun ds ω1 => ∃ j, ds = [.int j] ∧ -(2 ^ 62) ≤ j ∧ j < 2 ^ 62 ∧ k (rngD 0 j.toNat) (fun _ => True) ω1
def diR2 (t : LTA) : LTI := fun ρ ω x k => t ρ ω x fun ds ω1 => ∃ i j, ds = [.int i, .int j] ∧ (-(2 ^ 62) ≤ i ∧ i < 2 ^ 62 ∧ -(2 ^ 62) ≤ j ∧ j < 2 ^ 62) ∧ k (rngD i (j - i).toNat) (fun _ => True) ω1
theorem xi_r1 {tg a : Expr} {ta : TA} {da : LTA} {p pos : Pos} (hm : X.mg "range" = none) (ha : XA X E [a] ta da) (hg : Gl X "range" := by rfl) (hs : starEach [a] X.env = [(false, eval a X.env)] := by rfl) : XI X E tg (.Call (.Name "range" p) [a] [] pos) (iRng1 ta) (diR1 da) := ⟨pi_range1 hg hm ha.pe hs, fun F H σ ρ ω x k R hd hr lx q w =>
  ha.lf F H σ ρ ω x _ _ hd hr lx q fun vs ds F1 H1 ω1 ⟨j, e, h1, h2, q1⟩ s1 hd1 r1 => by
    subst e
    obtain ⟨u, rfl, ru⟩ := rpl_one r1
    rw [ru.int_inv]
    exact ⟨j, rfl, h1, h2, w _ _ _ _ _ _ q1 s1 hd1 walk_range⟩⟩
theorem xi_r2 {tg a b : Expr} {ta : TA} {da : LTA} {p pos : Pos} (hm : X.mg "range" = none) (ha : XA X E [a, b] ta da) (hg : Gl X "range" := by rfl) (hs : starEach [a, b] X.env = [(false, eval a X.env), (false, eval b X.env)] := by rfl) (hs2 : starEach [b] X.env = [(false, eval b X.env)] := by rfl) :
    XI X E tg (.Call (.Name "range" p) [a, b] [] pos) (iRng2 ta) (diR2 da) := ⟨pi_range2 hg hm ha.pe hs hs2, fun F H σ ρ ω x k R hd hr lx q w =>
  ha.lf F H σ ρ ω x _ _ hd hr lx q fun vs ds F1 H1 ω1 ⟨i, j, e, h1, q1⟩ s1 hd1 r1 => by
    subst e
    obtain ⟨u, v, rfl, ru, rv⟩ := rpl_two r1
    rw [ru.int_inv, rv.int_inv]
    exact ⟨i, j, rfl, h1, w _ _ _ _ _ _ q1 s1 hd1 walk_range⟩⟩

/-! ### for -/
def LEnds.loop (L : LEnds) (n : Rho → Store → Prop) : LEnds := { L with nx := n, ct := n, bk := L.nx }
def dFor (ti : LTI) (g : LTG) (tb : LTS) : LTS := fun L ρ ω => ti ρ ω L.xc fun ds stab ω1 => ∃ I : Nat → Rho → Store → Prop, I 0 ρ ω1 ∧ (∀ i ρ ω, I i ρ ω → stab ω) ∧
  (∀ i d ρ ω, ds[i]? = some d → I i ρ ω → g d ρ ω L.xc fun ρ' ω' => tb (L.loop (I (i + 1))) ρ' ω') ∧ ∀ ρ ω, I ds.length ρ ω → L.nx ρ ω
theorem xs_for {tg iter : Expr} {body : List Stmt} {wi : TI} {ti : LTI} {ttg : TG} {g : LTG} {tb : TS} {db : LTS} (hp : PassesOwn (model X.prog X.w) X.A X.env X.xe) (hc : X.calm = true) (hi : XI X E tg iter wi ti) (hg : XG X E tg ttg g) (hb : XSs X E body tb db) (hfs : ∀ x, foldedSetIterable iter X.env x = pure x := by intro _; rfl) :
    XS X E (.For tg iter body [] pos) (tFor wi ttg tb) (dFor ti g db) := ⟨ps_for hp hc hi.pe hg.pg hb.pe hfs, fun F H σ ρ ω L D hd hr q w =>
  hi.lf F H σ ρ ω L.xc _ _ hd hr w.xc q fun ds stab F1 H1 ω1 J ⟨I, q0, qs, qt, qe⟩ s1 hd1 wk => by
    refine ⟨fun i m σ H => m = ds.length - i ∧ i ≤ ds.length ∧ ∃ F' ρ ω, Same F1 F' ∧ Hd X.K F' H ω ∧ Rn X.K F' σ ρ ∧ I i ρ ω, ⟨ds.length, rfl, Nat.zero_le _, F1, ρ, ω1, same_refl _, hd1, hr.mono s1, q0⟩, ?_⟩
    rintro i m σ' H' ⟨rfl, hle, F2, ρ2, ω2, s2, hd2, hr2, q2⟩
    have st := qs _ _ _ q2
    by_cases hlt : i < ds.length
    · refine .inr ⟨wk.go i F2 H' ω2 s2 hd2 st hlt, fun σ H => i + 1 ≤ ds.length ∧ ∃ F' ρ ω, Same F1 F' ∧ Hd X.K F' H ω ∧ Rn X.K F' σ ρ ∧ I (i + 1) ρ ω, fun σ3 H3 z => ⟨ds.length - (i + 1), by omega, rfl, z.1, z.2⟩, fun v H3 y => ?_⟩
      obtain ⟨F3, d, s3, hd3, e, r⟩ := wk.yld i v F2 H' H3 ω2 s2 hd2 st y hlt
      have s13 := same_tr s2 s3
      refine hg.lf F3 H3 σ' ρ2 ω2 v d L.xc _ _ hd3 (hr2.mono s3) r (w.xc.mono (same_tr s1 s13)) (qt i d ρ2 ω2 e q2) fun σ4 ρ4 F4 H4 ω4 q4 s4 hd4 hr4 => ?_
      have s14 := same_tr s13 s4
      have nxt : WN X.K F4 (I (i + 1)) fun σ H => i + 1 ≤ ds.length ∧ ∃ F' ρ ω, Same F1 F' ∧ Hd X.K F' H ω ∧ Rn X.K F' σ ρ ∧ I (i + 1) ρ ω := fun σ5 ρ5 F5 H5 ω5 q5 s5 hd5 hr5 => ⟨hlt, F5, ρ5, ω5, same_tr s14 s5, hd5, hr5, q5⟩
      have w4 := w.mono (same_tr s1 s14)
      exact hb.lf F4 H4 σ4 ρ4 ω4 _ _ hd4 hr4 q4 ⟨nxt, w4.rt, w4.xc, w4.nx, nxt⟩
    · have ei : i = ds.length := by omega
      subst ei
      exact .inl ⟨wk.stop F2 H' ω2 s2 hd2 st, (w.mono (same_tr s1 s2)).nx.here (qe _ _ q2) hd2 hr2⟩⟩
def dWhile (c : LTT) (tb : LTS) : LTS := fun L ρ ω => ∃ I : Nat → Rho → Store → Prop, (∃ m, I m ρ ω) ∧ ∀ m ρ ω, I m ρ ω → c ρ ω L.xc fun b ω1 => if b = true then tb (L.loop fun ρ' ω' => ∃ m', m' < m ∧ I m' ρ' ω') ρ ω1 else L.nx ρ ω1
theorem xs_while {c : Expr} {body : List Stmt} {tc : TT} {dc : LTT} {tb : TS} {db : LTS} (hp : PassesOwn (model X.prog X.w) X.A X.env X.xe) (hc : XT X E c tc dc) (hb : XSs X E body tb db) : XS X E (.While c body [] pos) (tWhile tc tb) (dWhile dc db) := ⟨ps_while hp hc.pe hb.pe, fun F H σ ρ ω L D hd hr ⟨I, ⟨m0, q0⟩, qt⟩ w => by
  refine ⟨fun m σ H => ∃ F' ρ ω, Same F F' ∧ Hd X.K F' H ω ∧ Rn X.K F' σ ρ ∧ I m ρ ω, ⟨m0, F, ρ, ω, same_refl _, hd, hr, q0⟩, ?_⟩
  rintro m σ' H' ⟨F2, ρ2, ω2, s2, hd2, hr2, q2⟩
  refine hc.lf F2 H' σ' ρ2 ω2 L.xc _ _ hd2 hr2 (w.xc.mono s2) (qt m ρ2 ω2 q2) fun b F3 H3 ω3 q3 s3 hd3 => ?_
  have w3 := w.mono (same_tr s2 s3)
  cases b with
  | true =>
    refine ⟨fun σ H => ∃ m', m' < m ∧ ∃ F' ρ ω, Same F F' ∧ Hd X.K F' H ω ∧ Rn X.K F' σ ρ ∧ I m' ρ ω, fun _ _ z => z, ?_⟩
    have nxt : WN X.K F3 (fun ρ' ω' => ∃ m', m' < m ∧ I m' ρ' ω') fun σ H => ∃ m', m' < m ∧ ∃ F' ρ ω, Same F F' ∧ Hd X.K F' H ω ∧ Rn X.K F' σ ρ ∧ I m' ρ ω := fun σ5 ρ5 F5 H5 ω5 ⟨m', hm, q5⟩ s5 hd5 hr5 => ⟨m', hm, F5, ρ5, ω5, same_tr (same_tr s2 s3) s5, hd5, hr5, q5⟩
    exact hb.lf F3 H3 σ' ρ2 ω3 _ _ hd3 (hr2.mono s3) q3 ⟨nxt, w3.rt, w3.xc, w3.nx, nxt⟩
  | false => exact w3.nx.here q3 hd3 (hr2.mono s3)⟩
end
end L3
/-! L3h: comprehensions; the promise of a def; calls. -/
namespace L3
open PySem L2 PySem.Spec PyProof.Rows
open PySem (PyData)

/-! ### targets that store the block's own names alone -/
theorem wipe_set_out {σ : L2.St} {i : Nat} {x : Option V} : ∀ {vs : List Nat}, i ∉ vs → wipe (σ.set i x) vs = (wipe σ vs).set i x
  | [], _ => rfl
  | v :: vs, h => by
    show (wipe (σ.set i x) vs).set v none = ((wipe σ vs).set v none).set i x
    rw [wipe_set_out fun z => h (List.mem_cons_of_mem _ z)]
    exact List.set_comm _ _ fun z => h (by rw [z]; exact List.mem_cons_self ..)
theorem wipe_set_in {σ : L2.St} {i : Nat} {x : Option V} : ∀ {vs : List Nat}, i ∈ vs → wipe (σ.set i x) vs = wipe σ vs
  | v :: vs, h => by
    show (wipe (σ.set i x) vs).set v none = (wipe σ vs).set v none
    by_cases hi : i ∈ vs
    · rw [wipe_set_in hi]
    · rcases List.mem_cons.mp h with e | e
      · subst e
        rw [wipe_set_out hi, List.set_set]
      · exact absurd e hi
theorem wipe_wipe {σ : L2.St} : ∀ {ws vs : List Nat}, (∀ v ∈ vs, v ∈ ws) → wipe (wipe σ vs) ws = wipe σ ws
  | ws, [], _ => rfl
  | ws, v :: vs, h => by
    show wipe ((wipe σ vs).set v none) ws = _
    rw [wipe_set_in (h v (List.mem_cons_self ..)), wipe_wipe fun u hu => h u (List.mem_cons_of_mem _ hu)]
def OwnG (vs : List Nat) (tg : TG) : Prop := ∀ v σ H Q, tg v σ H Q → tg v σ H fun σ2 H2 => wipe σ2 vs = wipe σ vs ∧ Q σ2 H2
def OwnGs (vs : List Nat) (tg : TGs) : Prop := ∀ v σ H Q, tg v σ H Q → tg v σ H fun σ2 H2 => wipe σ2 vs = wipe σ vs ∧ Q σ2 H2
theorem og_name {vs : List Nat} {i : Nat} (h : i ∈ vs) : OwnG vs (gName i) := fun v σ H Q q => ⟨wipe_set_in h, q⟩
theorem ogs_nil {vs : List Nat} : OwnGs vs gNil := fun v σ H Q q => ⟨q.1, rfl, q.2⟩
theorem ogs_cons {vs : List Nat} {tg : TG} {tgs : TGs} (mono : ∀ v σ H Q Q', (∀ σ H, Q σ H → Q' σ H) → tg v σ H Q → tg v σ H Q') (h : OwnG vs tg) (h' : OwnGs vs tgs) : OwnGs vs (gCons tg tgs) := fun us σ H Q ⟨v, r, e, q⟩ => by
  refine ⟨v, r, e, ?_⟩
  refine mono v σ H _ _ (fun σ2 H2 z => ?_) (h v σ H _ q)
  have z2 := h' r σ2 H2 Q z.2
  rw [z.1] at z2
  exact z2
theorem mono_name {i : Nat} : ∀ v σ H Q Q', (∀ σ H, Q σ H → Q' σ H) → gName i v σ H Q → gName i v σ H Q' := fun v σ H Q Q' h q => h _ _ q
theorem og_tup {K : PySem.W.Frag} {vs : List Nat} {n : Nat} {tgs : TGs} (h : OwnGs vs tgs) : OwnG vs (gAnyT K n tgs) := fun v σ H Q q => by
  rcases q with ⟨a, xs, e, s, l, q⟩ | ⟨a, xs, e, s, l, q⟩
  · exact .inl ⟨a, xs, e, s, l, h xs σ H Q q⟩
  · exact .inr ⟨a, xs, e, s, l, h xs σ H Q q⟩

/-! ### comprehensions -/
def X0 : KX := fun _ _ => False
def E0 : XK := fun _ _ _ => False
theorem lx0 {K : PySem.W.Frag} {F : Hp} : LX K F E0 X0 := fun _ _ _ _ _ q => q.elim
def del (ω : Store) (p : Addr) : Store := fun a => if a = p then none else ω a
theorem del_sup {ω : Store} {p : Addr} {c : Cell} (h : ω p = none) : del (sup ω p c) p = ω := by
  funext a
  unfold del sup
  by_cases e : a = p
  · rw [if_pos e, e, h]
  · rw [if_neg e, if_neg e]
/-- a list of the store: kept so, or frozen -/
def NewP (p : Addr) (ω : Store) (k : KV) : Prop := k (.ptr p) ω ∨ ∃ ds, ω p = some (.lst ds) ∧ k (.lst ds) (del ω p)
theorem newP_ok {K : PySem.W.Frag} {F H : Hp} {ω : Store} {p : Addr} {k : KV} {Q : VK} (hd : Hd K F H ω) (q : NewP p ω k) (w : WV K F k Q) : Q (.ref p) H := by
  rcases q with q | ⟨ds, e, q⟩
  · exact w.here q hd (.ptr p)
  · obtain ⟨F2, s2, hd2, r2⟩ := hd.freeze e
    exact w _ _ _ _ _ q s2 hd2 r2
section
variable {X : Cx} {E : XK}
structure XTs (X : Cx) (E : XK) (es : List Expr) (tt : TT) (t : LTT) : Prop where
  pe : PTs X es tt
  lf : LfT X.K E tt t
def dYes : LTT := fun _ ω _ k => k true ω
theorem xts_nil : XTs X E [] tYes dYes := ⟨pts_nil, fun F H σ ρ ω x k Q hd hr _ q w => w true F H ω q (same_refl F) hd⟩
theorem xts_one {c : Expr} {tt : TT} {t : LTT} (h : XT X E c tt t) : XTs X E [c] tt t := ⟨pts_one h.pe, h.lf⟩
def dLc (ti : LTI) (g : LTG) (tt : LTT) (te : LTE) (vs : List Nat) : LTE := fun ρ ω x k => ti ρ ω x fun ds stab ω1 => ∀ p, ω1 p = none → ∃ I : Nat → Store → Prop, I 0 (sup ω1 p (.lst [])) ∧ (∀ i ω, I i ω → stab ω) ∧
  (∀ i d ω, ds[i]? = some d → I i ω → g d (wipeD ρ vs) ω X0 fun ρ2 ω2 => tt ρ2 ω2 X0 fun b ω3 =>
    if b = true then te ρ2 ω3 X0 fun e ω4 => ∃ acc, ω4 p = some (.lst acc) ∧ acc.length < sizeLine ∧ I (i + 1) (sup ω4 p (.lst (acc ++ [e]))) else I (i + 1) ω3) ∧ ∀ ω, I ds.length ω → NewP p ω k
theorem lf_lc {K : PySem.W.Frag} {wi : TI} {ti : LTI} {tg : TG} {g : LTG} {tt : TT} {dt : LTT} {te : TE} {de : LTE} {vs : List Nat} (hi : LfI K E wi ti) (ho : OwnG vs tg) (hg : LfG K E0 tg g) (ht : LfT K E0 tt dt) (he : LfE K E0 te de) : LfE K E (tLc wi tg tt te vs) (dLc ti g dt de vs) := by
  intro F H σ ρ ω x k Q hd hr lx q w
  refine hi F H σ ρ ω x _ _ hd hr lx q fun ds stab F1 H1 ω1 J q1 s1 hd1 wk => fun D hD => ?_
  obtain ⟨I, q0, qs, qt, qe⟩ := q1 D (hd1.fω hD)
  have rw_ : Rn K F1 (wipe σ vs) (wipeD ρ vs) := (hr.mono s1).wipe vs
  refine ⟨fun i m H => m = ds.length - i ∧ i ≤ ds.length ∧ ∃ F' ω, Same F1 F' ∧ Hd K F' H ω ∧ I i ω, ⟨ds.length, rfl, Nat.zero_le _, F1, _, same_refl _, hd1.newC hD (.lst .nil), q0⟩, ?_⟩
  rintro i m H' ⟨rfl, hle, F2, ω2, s2, hd2, q2⟩
  have st := qs _ _ q2
  by_cases hlt : i < ds.length
  · have fin : ∀ (F' H' : Hp) (ω' : Store), Same F1 F' → Hd K F' H' ω' → I (i + 1) ω' → (fun H => i + 1 ≤ ds.length ∧ ∃ F' ω, Same F1 F' ∧ Hd K F' H ω ∧ I (i + 1) ω) H' := fun F' H' ω' a b c => ⟨hlt, F', ω', a, b, c⟩
    refine .inr ⟨wk.go i F2 H' ω2 s2 hd2 st hlt, fun H => i + 1 ≤ ds.length ∧ ∃ F' ω, Same F1 F' ∧ Hd K F' H ω ∧ I (i + 1) ω, fun H3 z => ⟨ds.length - (i + 1), by omega, rfl, z.1, z.2⟩, fun v H3 y => ?_⟩
    obtain ⟨F3, d, s3, hd3, e, r⟩ := wk.yld i v F2 H' H3 ω2 s2 hd2 st y hlt
    have s13 := same_tr s2 s3
    have key : tg v (wipe σ vs) H3 fun σ2 H2 => tt σ2 H2 fun b H3 => if b = true then te σ2 H3 fun y H4 => ∃ acc, H4 D = some (.lst acc) ∧ acc.length < sizeLine ∧ (fun H => i + 1 ≤ ds.length ∧ ∃ F' ω, Same F1 F' ∧ Hd K F' H ω ∧ I (i + 1) ω) (upd H4 D (.lst (acc ++ [y])))
        else (fun H => i + 1 ≤ ds.length ∧ ∃ F' ω, Same F1 F' ∧ Hd K F' H ω ∧ I (i + 1) ω) H3 := by
      refine hg F3 H3 _ _ ω2 v d X0 _ _ hd3 (rw_.mono s13) r lx0 (qt i d ω2 e q2) fun σ4 ρ4 F4 H4 ω4 q4 s4 hd4 hr4 => ?_
      refine ht F4 H4 σ4 ρ4 ω4 X0 _ _ hd4 hr4 lx0 q4 fun b F5 H5 ω5 q5 s5 hd5 => ?_
      cases b with
      | true =>
        refine he F5 H5 σ4 ρ4 ω5 X0 _ _ hd5 (hr4.mono s5) lx0 q5 fun u a F6 H6 ω6 q6 s6 hd6 r6 => ?_
        obtain ⟨acc, e6, hz, q7⟩ := q6
        obtain ⟨_, o, e7, ok⟩ := hd6.cell _ _ e6
        cases ok with
        | lst rl => exact ⟨_, e7, by rw [rl.length]; exact hz, fin _ _ _ (same_tr s13 (same_tr s4 (same_tr s5 s6))) (hd6.put e6 (.lst (rl.append (.cons r6 .nil)))) q7⟩
      | false => exact fin _ _ _ (same_tr s13 (same_tr s4 s5)) hd5 q5
    have k2 := ho v (wipe σ vs) H3 _ key
    rw [wipe_wipe fun _ h => h] at k2
    exact k2
  · have ei : i = ds.length := by omega
    subst ei
    exact .inl ⟨wk.stop F2 H' ω2 s2 hd2 st, newP_ok hd2 (qe _ q2) (w.mono (same_tr s1 s2))⟩
theorem xe_lc {elt tg iter : Expr} {ifs : List Expr} {scope : Scope} {own : List (Str × Nat)} {pos : Pos} {wi : TI} {ti : LTI} {ttg : TG} {g : LTG} {tt : TT} {dt : LTT} {te : TE} {de : LTE} (hc : X.calm = true) (hN : X.N.Nodup) (hi : XI X E tg iter wi ti) (ok : BlkOk X.N X.env.scope scope own) (ho : OwnG (own.map (·.2)) ttg)
    (hg : ∀ (s : Shared) (H : Hp) (C : Addr) (cl : List (Str × Addr)) (fp : List Addr), XG (X.blk s H scope (compEnvC scope cl C X.env) fp) E0 tg ttg g) (ht : ∀ (s : Shared) (H : Hp) (C : Addr) (cl : List (Str × Addr)) (fp : List Addr), XTs (X.blk s H scope (compEnvC scope cl C X.env) fp) E0 ifs tt dt)
    (he : ∀ (s : Shared) (H : Hp) (C : Addr) (cl : List (Str × Addr)) (fp : List Addr), XE (X.blk s H scope (compEnvC scope cl C X.env) fp) E0 elt te de) (hs : ∀ x, foldedSetIterable iter X.env x = pure x := by intro _; rfl) :
    XE X E (.ListComp elt [⟨tg, iter, ifs, 0⟩] scope pos) (tLc wi ttg tt te (own.map (·.2))) (dLc ti g dt de (own.map (·.2))) :=
  ⟨pe_lc hc hN hi.pe ok (fun s H C cl fp => (hg s H C cl fp).pg) (fun s H C cl fp => (ht s H C cl fp).pe) (fun s H C cl fp => (he s H C cl fp).pe) hs,
    lf_lc hi.lf ho (hg {} (fun _ => none) 0 [] []).lf (ht {} (fun _ => none) 0 [] []).lf (he {} (fun _ => none) 0 [] []).lf⟩
theorem xs_setLc {i : Nat} {y : Str} {py : Pos} {elt tg iter : Expr} {ifs : List Expr} {scope : Scope} {own : List (Str × Nat)} {pos spos : Pos} {wi : TI} {ti : LTI} {ttg : TG} {g : LTG} {tt : TT} {dt : LTT} {te : TE} {de : LTE} (hc : X.calm = true) (hN : X.N.Nodup) (hi : XI X E tg iter wi ti) (ok : BlkOk X.N X.env.scope scope own) (ho : OwnG (own.map (·.2)) ttg)
    (hg : ∀ (s : Shared) (H : Hp) (C : Addr) (cl : List (Str × Addr)) (fp : List Addr), XG (X.blk s H scope (compEnvC scope cl C X.env) fp) E0 tg ttg g) (ht : ∀ (s : Shared) (H : Hp) (C : Addr) (cl : List (Str × Addr)) (fp : List Addr), XTs (X.blk s H scope (compEnvC scope cl C X.env) fp) E0 ifs tt dt)
    (he : ∀ (s : Shared) (H : Hp) (C : Addr) (cl : List (Str × Addr)) (fp : List Addr), XE (X.blk s H scope (compEnvC scope cl C X.env) fp) E0 elt te de) (hy : X.N[i]? = some y := by rfl) (hyl : X.env.scope.names.lookup y = some .local := by rfl)
    (hsw : swapsWith (.ListComp elt [⟨tg, iter, ifs, 0⟩] scope pos) (some (.Name y py)) spos.line X.env = pure true := by exact sw_true rfl rfl rfl (by decide +kernel)) (hs : ∀ x, foldedSetIterable iter X.env x = pure x := by intro _; rfl) :
    XS X E (.Assign [.Name y py] (.ListComp elt [⟨tg, iter, ifs, 0⟩] scope pos) spos) (tAsg (tLc wi ttg tt te (own.map (·.2))) (gName i)) (dAsg (dLc ti g dt de (own.map (·.2))) (gdName i)) :=
  ⟨ps_setLc hc hN hy hyl hsw hi.pe ok (fun s H C cl fp => (hg s H C cl fp).pg) (fun s H C cl fp => (ht s H C cl fp).pe) (fun s H C cl fp => (he s H C cl fp).pe) hs,
    lf_asg (lf_lc hi.lf ho (hg {} (fun _ => none) 0 [] []).lf (ht {} (fun _ => none) 0 [] []).lf (he {} (fun _ => none) 0 [] []).lf) fun F H σ ρ ω v d x k Q hd hr r _ q w => w.here q hd (hr.set r i)⟩
end

/-! ### the promise of a def -/
/-- what may be told of a result otherwise: parts of the store forgotten, a list frozen -/
def Cv (d : D) (ω : Store) (d' : D) (ω' : Store) : Prop := ∀ (K : PySem.W.Frag) (F H : Hp) (v : V), Hd K F H ω → Rp K F v d → ∃ F', Same F F' ∧ Hd K F' H ω' ∧ Rp K F' v d'
theorem Cv.refl (d : D) (ω : Store) : Cv d ω d ω := fun K F H v hd r => ⟨F, same_refl F, hd, r⟩
theorem Cv.drop {d : D} {ω ω' : Store} (h : ∀ a c, ω' a = some c → ω a = some c) : Cv d ω d ω' := fun K F H v hd r => ⟨F, same_refl F, hd.drop h, r⟩
theorem Cv.freeze {p : Addr} {ω : Store} {ds : List D} (h : ω p = some (.lst ds)) : Cv (.ptr p) ω (.lst ds) (del ω p) := fun K F H v hd r => by
  rw [r.ptr_inv]
  exact hd.freeze h
theorem Cv.trans {d d' d2 : D} {ω ω' ω2 : Store} (h : Cv d ω d' ω') (h' : Cv d' ω' d2 ω2) : Cv d ω d2 ω2 := fun K F H v hd r => by
  obtain ⟨F1, s1, hd1, r1⟩ := h K F H v hd r
  obtain ⟨F2, s2, hd2, r2⟩ := h' K F1 H v hd1 r1
  exact ⟨F2, same_tr s1 s2, hd2, r2⟩
def RtK (k : KV) : KV := fun d ω => ∃ d' ω', Cv d ω d' ω' ∧ k d' ω'
theorem RtK.of {k : KV} {d : D} {ω : Store} (h : k d ω) : RtK k d ω := ⟨d, ω, Cv.refl d ω, h⟩
/-- an error that leaves: what of the store is forgotten -/
def XcK (x : KX) : KX := fun e ω => ∃ ω', (∀ a c, ω' a = some c → ω a = some c) ∧ x e ω'
def LEnds.top (x : KX) (k : KV) : LEnds := { nx := fun _ ω => RtK k .non ω, rt := RtK k, xc := XcK x, bk := fun _ _ => False, ct := fun _ _ => False }
def startD (N : List Str) (ds : List D) : Rho := ds.map some ++ List.replicate (N.length - ds.length) none
theorem rn_start {K : PySem.W.Frag} {F : Hp} {vs : List V} {ds : List D} (r : RpL K F vs ds) (N : List Str) : Rn K F (L2.start N vs) (startD N ds) := by
  unfold L2.start startD
  rw [r.length]
  refine ⟨by simp [r.length], fun i d q => ?_⟩
  by_cases hi : i < ds.length
  · rw [List.getElem?_append_left (by simpa using hi), List.getElem?_map] at q
    rw [List.getElem?_append_left (by rw [List.length_map, r.length]; exact hi), List.getElem?_map]
    cases e : ds[i]? with
    | none =>
      rw [e] at q
      cases q
    | some d' =>
      rw [e] at q
      cases q
      obtain ⟨v, e2, r2⟩ := r.get e
      exact ⟨v, by rw [e2] <;> rfl, r2⟩
  · rw [List.getElem?_append_right (by simpa using hi), List.getElem?_replicate] at q
    split at q <;> cases q
theorem lx_top {K : PySem.W.Frag} {F : Hp} {E : XK} {x : KX} (h : LX K F E x) : LX K F E (XcK x) := fun F' H' ω' e od ⟨ω2, w, q⟩ s hd ok => h F' H' ω2 e od q s (hd.drop w) ok
theorem ws_top {K : PySem.W.Frag} {F : Hp} {E : XK} {x : KX} {k : KV} {Q : VK} (lx : LX K F E x) (w : WV K F k Q) : WS K F E (LEnds.top x k) { nx := fun _ H' => Q .non H', rt := Q } := by
  have rt : WV K F (RtK k) Q := fun v d F' H' ω' ⟨d2, ω2, c, q⟩ s hd r => by
    obtain ⟨F2, s2, hd2, r2⟩ := c K F' H' v hd r
    exact w v d2 F2 H' ω2 q (same_tr s s2) hd2 r2
  exact ⟨fun σ' ρ' F' H' ω' q s hd r => rt .non .non F' H' ω' q s hd .non, rt, lx_top lx, fun _ _ _ _ _ q => q.elim, fun _ _ _ _ _ q => q.elim⟩
/-- a def of the text stands there -/
structure Df (g : Bool) (P : Program) (w : World) (K : PySem.W.Frag) (mg : Str → Option Value) (base : Heap) (C0 : CXT) (k : Nat) (x : Str) (st : Stmt) (ps : List Str) (S : DSp) : Prop where
  ex : ∃ (f : Addr) (fd : FuncData), FnX g P w K mg base C0 k f fd ps (lift K S) ∧ mg x = some (.ref f) ∧ Fun K x x st f fd ∧ Binds K fd ps []
theorem Df.up {g : Bool} {P : Program} {w : World} {K : PySem.W.Frag} {mg : Str → Option Value} {base : Heap} {C0 : CXT} {j k : Nat} {x : Str} {st : Stmt} {ps : List Str} {S : DSp} (h : Df g P w K mg base C0 j x st ps S) (hk : j ≤ k) : Df g P w K mg base C0 k x st ps S :=
  let ⟨f, fd, F, a, b, c⟩ := h.ex
  ⟨f, fd, F.up hk, a, b, c⟩
/-- the text's def at f, ahead of any promise -/
structure Tx (K : PySem.W.Frag) (mg : Str → Option Value) (x : Str) (st : Stmt) (ps : List Str) : Prop where
  ex : ∃ (f : Addr) (fd : FuncData), Fun K x x st f fd ∧ mg x = some (.ref f) ∧ Binds K fd ps []
theorem lift_len {K : PySem.W.Frag} {S : DSp} {n : Nat} (h : ∀ ds ω x k, S ds ω x k → ds.length = n) : ∀ vs H Q E, lift K S vs H Q E → vs.length = n := fun vs H Q E ⟨F, ω, ds, x, k, hd, r, q, _, _⟩ => r.length.trans (h ds ω x k q)
/-- THE RULE: a def that lets no error out -/
theorem Tx.df {g : Bool} {P : Program} {w : World} {K : PySem.W.Frag} {mg : Str → Option Value} {base : Heap} {k : Nat} {x : Str} {st : Stmt} {N ps : List Str} {S : DSp} (T : Tx K mg x st ps) (Sc : FnScope N ps (defScope st)) (len : ∀ ds ω x k, S ds ω x k → ds.length = ps.length)
    (by_ : ∀ (f : Addr) (cdv : Value) (A : Around) (out : List PySem.Env) (s : Shared) (H : Hp), (g = true → A.guards = some []) → Room k (A.deeper (envOfC x (defScope st) s.heap.objs.size f cdv)) →
      ∃ ts t, XSs (cxOf CX0 P w K mg base N x (defScope st) f cdv A out s H L2.E0).nox E0 (defBody st) ts t ∧ ∀ ds ω (x : KX) (k : KV), S ds ω x k → t (LEnds.top X0 k) (startD N ds) ω) : Df g P w K mg base CX0 (k + 1) x st ps S := by
  obtain ⟨f, fd, F, hm, hb⟩ := T.ex
  refine ⟨f, fd, ?_, hm, F, hb⟩
  obtain ⟨oc, od, kV, doc, pm, an, cdv, ct, osl, rfl, lk, hcd⟩ := F.ex
  refine fnx_of lk hcd Sc (lift_len len) fun A out s H vs Q E hg hr q => ?_
  obtain ⟨F0, ω, ds, x0, k0, hd, r, q, lx, w0⟩ := q
  obtain ⟨ts, t, h, ht⟩ := by_ f cdv A out s H hg hr
  refine ⟨ts, ?_, h.lf F0 H _ _ ω _ _ hd (rn_start r N) (ht ds ω x0 k0 q) (ws_top lx0 w0)⟩
  exact (PSs.nox (X := cxOf CX0 P w K mg base N x (defScope st) f cdv A out s H E) h.pe)

section
variable {X : Cx} {E : XK} {g : Bool} {C0 : CXT} {k : Nat} {x : Str} {st : Stmt} {ps : List Str} {S : DSp} {p pos : Pos} {e : Expr} {es : List Expr} {tA : TA} {dA : LTA}
theorem xe_call (h : Df g X.prog X.w X.K X.mg X.base C0 k x st ps S) (hgd : g = true → X.A.guards = some []) (hr : Room k X.A) (hx : Passes C0 X E) (ha : XA X E (e :: es) tA dA) (hg : Gl X x := by rfl) (hdb : (x == ("__debug__" : Str)) = false := by decide)
    (he : starEach (e :: es) X.env = (false, eval e X.env) :: starEach es X.env := by rfl) (hpl : (backTo pos (starEach es X.env)).any (·.1) = false := by rfl) : XE X E (.Call (.Name x p) (e :: es) [] pos) (tCall (lift X.K S) [] E tA) (dCB S dA) := by
  obtain ⟨f, fd, F, hm, Fu, hb⟩ := h.ex
  exact ⟨px_call F hgd hr hg hm Fu.kp hb .nil hx ha.pe hdb he hpl, lf_call ha.lf⟩
theorem xe_call0 (h : Df g X.prog X.w X.K X.mg X.base C0 k x st ps S) (hgd : g = true → X.A.guards = some []) (hr : Room k X.A) (hx : Passes C0 X E) (hg : Gl X x := by rfl) (hdb : (x == ("__debug__" : Str)) = false := by decide) : XE X E (.Call (.Name x p) [] [] pos) (tCall (lift X.K S) [] E tNil) (dCB S dNil) := by
  obtain ⟨f, fd, F, hm, Fu, hb⟩ := h.ex
  exact ⟨px_call0 F hgd hr hg hm Fu.kp hb .nil hx hdb, lf_call lf_nil⟩
/-! keywords: h puts the positional values and those of the keywords ks in the parameters' order -/
structure XKw (X : Cx) (E : XK) (kws : List Keyword) (te : TA) (t : LTA) : Prop where
  pe : PK X kws te
  lf : LfA X.K E te t
theorem xk_nil : XKw X E [] tNil dNil := ⟨pk_nil, lf_nil⟩
theorem xk_cons {nm : Option Str} {kpos : Pos} {kws : List Keyword} {te : TE} {de : LTE} (h : XE X E e te de) (h' : XKw X E kws tA dA) : XKw X E (⟨nm, e, kpos⟩ :: kws) (tCons te tA) (dCons de dA) := ⟨pk_cons h.pe h'.pe, lf_cons h.lf h'.lf⟩
/-- the same function on values of any kind -/
structure Ord (h : List Value → List Value → List Value) (hV : List V → List V → List V) (hD : List D → List D → List D) : Prop where
  v : ∀ {vs : List V} {us : List Value} {zs : List V} {ws : List Value}, Vals vs us → Vals zs ws → Vals (hV vs zs) (h us ws)
  d : ∀ {K : PySem.W.Frag} {F : Hp} {vs : List V} {ds : List D} {zs : List V} {es : List D}, RpL K F vs ds → RpL K F zs es → RpL K F (hV vs zs) (hD ds es)
theorem ord_kw : Ord (fun _ ws => ws) (fun _ ws => ws) (fun _ ws => ws) := ⟨fun _ h => h, fun _ h => h⟩
theorem ord_app : Ord (fun us ws => us ++ ws) (fun us ws => us ++ ws) (fun us ws => us ++ ws) := ⟨fun h h' => h.append h', fun h h' => h.append h'⟩
theorem kb_of {K : PySem.W.Frag} {x : Str} {st : Stmt} {f : Addr} {fd : FuncData} {ps ks : List Str} {h : List Value → List Value → List Value} {hV : List V → List V → List V} {hD : List D → List D → List D} (F : Fun K x x st f fd) (o : Ord h hV hD)
    (hb : ∀ (kV doc pm : Value) (an : Option Addr) (cdv ct : Value) (us ws : List Value), (h us ws).length = ps.length → bindArgs (PySem.W.fnOf x x (defArgs st) (defBody st) (defScope st) .none kV doc pm an cdv ct) ⟨us, ks.zip ws⟩ = pure (ps.zip (h us ws))) : KBinds K fd ps ks h hV := by
  obtain ⟨oc, od, kV, doc, pm, an, cdv, ct, osl, rfl, lk, hcd⟩ := F.ex
  exact ⟨fun s us ws _ hl => .of_eq (hb kV doc pm an cdv ct us ws hl), o.v⟩
def dCallK (S : DSp) (hD : List D → List D → List D) (ta tk : LTA) : LTE := fun ρ ω x k => ta ρ ω x fun ds ω1 => tk ρ ω1 x fun es ω2 => S (hD ds es) ω2 x k
theorem lf_callK {K : PySem.W.Frag} {t tk : TA} {d dk : LTA} {h : List Value → List Value → List Value} {hV : List V → List V → List V} {hD : List D → List D → List D} (o : Ord h hV hD) (ht : LfA K E t d) (hk : LfA K E tk dk) : LfE K E (tCallK (lift K S) hV E t tk) (dCallK S hD d dk) := fun F H σ ρ ω x k Q hd hr lx q w =>
  ht F H σ ρ ω x _ _ hd hr lx q fun vs ds F1 H1 ω1 q1 s1 hd1 r1 => hk F1 H1 σ ρ ω1 x _ _ hd1 (hr.mono s1) (lx.mono s1) q1 fun zs es F2 H2 ω2 q2 s2 hd2 r2 => ⟨F2, ω2, _, x, k, hd2, o.d (RpL.mono s2 r1) r2, q2, (lx.mono s1).mono s2, (w.mono s1).mono s2⟩
theorem xe_callK0 {kws : List Keyword} {ks : List Str} {h : List Value → List Value → List Value} {hV : List V → List V → List V} {hD : List D → List D → List D} (o : Ord h hV hD) (hf : Df g X.prog X.w X.K X.mg X.base C0 k x st ps S) (hb : ∀ (kV doc pm : Value) (an : Option Addr) (cdv ct : Value) (us ws : List Value), (h us ws).length = ps.length →
      bindArgs (PySem.W.fnOf x x (defArgs st) (defBody st) (defScope st) .none kV doc pm an cdv ct) ⟨us, ks.zip ws⟩ = pure (ps.zip (h us ws))) (hgd : g = true → X.A.guards = some []) (hr : Room k X.A) (hx : Passes C0 X E) (hkw : XKw X E kws tA dA)
    (hall : (backToKw pos (keywordEach kws X.env)).all (·.1.isSome) = true := by rfl) (hks : (backToKw pos (keywordEach kws X.env)).filterMap (·.1) = ks := by rfl) (hg : Gl X x := by rfl) (hdb : (x == ("__debug__" : Str)) = false := by decide)
    (hpl : ((backTo pos (starEach [] X.env)).any (·.1) || (backToKw pos (keywordEach kws X.env)).any (·.1.isNone)) = false := by rfl) : XE X E (.Call (.Name x p) [] kws pos) (tCallK (lift X.K S) hV E tNil tA) (dCallK S hD dNil dA) := by
  obtain ⟨f, fd, F, hm, Fu, _⟩ := hf.ex
  exact ⟨px_callK0 F hgd hr hg hm Fu.kp (kb_of Fu o hb) hx hkw.pe hall hks hdb hpl, lf_callK o lf_nil hkw.lf⟩
theorem xe_callK {tk : TA} {dk : LTA} {kws : List Keyword} {ks : List Str} {h : List Value → List Value → List Value} {hV : List V → List V → List V} {hD : List D → List D → List D} (o : Ord h hV hD) (hf : Df g X.prog X.w X.K X.mg X.base C0 k x st ps S) (hb : ∀ (kV doc pm : Value) (an : Option Addr) (cdv ct : Value) (us ws : List Value), (h us ws).length = ps.length →
      bindArgs (PySem.W.fnOf x x (defArgs st) (defBody st) (defScope st) .none kV doc pm an cdv ct) ⟨us, ks.zip ws⟩ = pure (ps.zip (h us ws))) (hgd : g = true → X.A.guards = some []) (hr : Room k X.A) (hx : Passes C0 X E) (ha : XA X E (e :: es) tA dA) (hkw : XKw X E kws tk dk)
    (hall : (backToKw pos (keywordEach kws X.env)).all (·.1.isSome) = true := by rfl) (hks : (backToKw pos (keywordEach kws X.env)).filterMap (·.1) = ks := by rfl) (hg : Gl X x := by rfl) (hdb : (x == ("__debug__" : Str)) = false := by decide)
    (he : starEach (e :: es) X.env = (false, eval e X.env) :: starEach es X.env := by rfl) (hpl : ((backTo pos (starEach (e :: es) X.env)).any (·.1) || (backToKw pos (keywordEach kws X.env)).any (·.1.isNone)) = false := by rfl) :
    XE X E (.Call (.Name x p) (e :: es) kws pos) (tCallK (lift X.K S) hV E tA tk) (dCallK S hD dA dk) := by
  obtain ⟨f, fd, F, hm, Fu, _⟩ := hf.ex
  exact ⟨px_callK F hgd hr hg hm Fu.kp (kb_of Fu o hb) hx ha.pe hkw.pe hall hks hdb he hpl, lf_callK o ha.lf hkw.lf⟩
theorem passAll : Passes CX0 X E := fun _ _ _ _ _ _ _ h => h.elim
end
end L3
/-! L3i: dict displays, xs[::-1], three targets, zip, enumerate; small helps. -/
namespace L3
open PySem L2 PySem.Spec PyProof.Rows
open PySem (PyData)
theorem room200 {k : Nat} {A : Around} (r : Room k A) : A.units + 200 < cLine := by
  have := r.un
  omega
theorem gF {p : Prop} : false = true → p := fun z => nomatch z
section
variable {X : Cx} {E : XK} {pos : Pos}
/-! ### {k: v, ..} -/
def dDnew : LTE := fun _ ω _ k => ∀ p, ω p = none → k (.ptr p) (sup ω p (.dK []))
theorem xe_dnew : XE X E (.Dict [] [] pos) tDNewK dDnew := ⟨pe_dnewK, fun F H σ ρ ω x k Q hd hr _ q w p hp => w _ _ _ _ _ (q p (hd.fω hp)) (same_refl F) (hd.newC hp (.dK .nil)) (.ptr p)⟩
def dPairs : List (LTE × LTE) → Rho → Store → KX → (List (D × D) → Store → Prop) → Prop
  | [], _, ω, _, k => k [] ω
  | (a, b) :: r, ρ, ω, x, k => a ρ ω x fun d ω1 => b ρ ω1 x fun e ω2 => dPairs r ρ ω2 x fun ps ω3 => k ((d, e) :: ps) ω3
def PrR (K : PySem.W.Frag) (F : Hp) : List (V × V) → List (D × D) → Prop := Paired fun p q => Rp K F p.1 q.1 ∧ Rp K F p.2 q.2
theorem PrR.mono {K : PySem.W.Frag} {F F' : Hp} (s : Same F F') : ∀ {a : List (V × V)} {b : List (D × D)}, PrR K F a b → PrR K F' a b
  | _, _, .nil => .nil
  | _, _, .cons h t => .cons ⟨h.1.mono s, h.2.mono s⟩ (PrR.mono s t)
structure XP (X : Cx) (E : XK) (pos : Pos) (ks : List (Option Expr)) (vs : List Expr) (trs : List (TE × TE)) (ds : List (LTE × LTE)) : Prop where
  pe : PPs X pos ks vs trs
  lf : ∀ (F H : Hp) (σ : L2.St) (ρ : Rho) (ω : Store) (x : KX) (k : List (D × D) → Store → Prop) (Q : List (V × V) → Hp → Prop), Hd X.K F H ω → Rn X.K F σ ρ → LX X.K F E x → dPairs ds ρ ω x k →
    (∀ ps qs F' H' ω', k qs ω' → Same F F' → Hd X.K F' H' ω' → PrR X.K F' ps qs → Q ps H') → tPairs trs σ H Q
theorem xp_nil : XP X E pos [] [] [] [] := ⟨pps_nil, fun F H σ ρ ω x k Q hd hr _ q w => w [] [] F H ω q (same_refl F) hd .nil⟩
theorem xp_cons {a b : Expr} {ks : List (Option Expr)} {vs : List Expr} {ta tb : TE} {da db : LTE} {trs : List (TE × TE)} {ds : List (LTE × LTE)} (ha : XE X E a ta da) (hb : XE X E b tb db) (h : XP X E pos ks vs trs ds) : XP X E pos (some a :: ks) (b :: vs) ((ta, tb) :: trs) ((da, db) :: ds) :=
  ⟨pps_cons ha.pe hb.pe h.pe, fun F H σ ρ ω x k Q hd hr lx q w => ha.lf F H σ ρ ω x _ _ hd hr lx q fun u d F1 H1 ω1 q1 s1 hd1 r1 => hb.lf F1 H1 σ ρ ω1 x _ _ hd1 (hr.mono s1) (lx.mono s1) q1 fun v e F2 H2 ω2 q2 s2 hd2 r2 =>
    h.lf F2 H2 σ ρ ω2 x _ _ hd2 ((hr.mono s1).mono s2) ((lx.mono s1).mono s2) q2 fun ps qs F3 H3 ω3 q3 s3 hd3 r3 => w _ _ F3 H3 ω3 q3 (same_tr s1 (same_tr s2 s3)) hd3 (.cons ⟨r1.mono (same_tr s2 s3), r2.mono s3⟩ r3)⟩
theorem kD_K {K : PySem.W.Frag} {F : Hp} {v : V} {k : Key} (r : Rp K F v (kD k)) : v = kV k := by
  cases k with
  | inl i => exact r.int_inv
  | inr s => exact r.str_inv
def mergeD (kvs : List (Key × D)) : List (Key × D) := kvs.foldl (fun acc p => putD acc p.1 p.2) []
def dDisp (ds : List (LTE × LTE)) : LTE := fun ρ ω x k => ∀ p, ω p = none → dPairs ds ρ (sup ω p (.dK [])) x fun qs ω2 => ω2 p = some (.dK []) ∧ ∃ kvs : List (Key × D), qs = kvs.map (fun q => (kD q.1, q.2)) ∧ kvs.length ≤ 15 ∧ k (.ptr p) (sup ω2 p (.dK (mergeD kvs)))
theorem prR_keys {K : PySem.W.Frag} {F : Hp} : ∀ {kvs : List (Key × D)} {ps : List (V × V)}, PrR K F ps (kvs.map fun q => (kD q.1, q.2)) → ∃ kws : List (Key × V), ps = kws.map (fun q => (kV q.1, q.2)) ∧ KvR K F kws kvs
  | [], _, .nil => ⟨[], rfl, .nil⟩
  | (k, d) :: kvs, (a, v) :: ps, .cons h t => by
    obtain ⟨kws, e, r⟩ := prR_keys t
    have e1 : a = kV k := kD_K h.1
    exact ⟨(k, v) :: kws, by rw [e, e1] <;> rfl, .cons ⟨rfl, h.2⟩ r⟩
theorem merge_rp {K : PySem.W.Frag} {F : Hp} : ∀ {kws : List (Key × V)} {kvs : List (Key × D)} {aw : List (Key × V)} {ad : List (Key × D)}, KvR K F kws kvs → KvR K F aw ad →
    KvR K F (kws.foldl (fun acc kv => putK acc kv.1 kv.2) aw) (kvs.foldl (fun acc p => putD acc p.1 p.2) ad)
  | _, _, _, _, .nil, h => h
  | _, _, _, _, .cons q t, h => by
    rw [List.foldl_cons, List.foldl_cons, q.1]
    exact merge_rp t (kvR_put q.2 h)
theorem xe_disp {keys : List (Option Expr)} {values : List Expr} {trs : List (TE × TE)} {ds : List (LTE × LTE)} (h : XP X E pos keys values trs ds) (hall : keys.all (·.isSome) = true := by rfl) (hl : keys.length = values.length := by rfl) (h0 : keys ≠ [] := by exact fun z => by cases z) (h15 : keys.length ≤ 15 := by decide) :
    XE X E (.Dict keys values pos) (tDisp trs) (dDisp ds) := ⟨pe_disp h.pe hall hl h0 h15, fun F H σ ρ ω x k Q hd hr lx q w p hp => by
  have hd1 := hd.newC hp (o := .dK []) (.dK .nil)
  refine h.lf F _ σ ρ _ x _ _ hd1 hr lx (q p (hd.fω hp)) fun ps qs F2 H2 ω2 q2 s2 hd2 r2 => ?_
  obtain ⟨e2, kvs, ek, hz, q3⟩ := q2
  subst ek
  obtain ⟨kws, ep, rk⟩ := prR_keys r2
  obtain ⟨_, o, e4, ok⟩ := hd2.cell _ _ e2
  cases ok with
  | dK hr0 =>
    cases hr0
    exact ⟨e4, kws, ep, by rw [paired_len rk]; exact hz, w _ _ _ _ _ q3 s2 (hd2.put e2 (.dK (merge_rp rk .nil))) (.ptr p)⟩⟩

/-! ### xs[::-1] of a list -/
def dRev (t : LTE) : LTE := fun ρ ω x k => t ρ ω x fun d ω1 => ∃ ds, SqOf ω1 d ds ∧ NewL ds.reverse ω1 k
theorem xe_rev {e : Expr} {te : TE} {t : LTE} {kk : Nat} {p1 p2 p3 : Pos} (h : XE X E e te t) : XE X E (.Subscript e (.Slice none none (some (.UnaryOp .USub (.Constant (.int 1) kk p1) p2)) p3) pos) (tRevL X.K te) (dRev t) := ⟨pe_revL h.pe, fun F H σ ρ ω x k Q hd hr lx q w =>
  h.lf F H σ ρ ω x _ _ hd hr lx q fun v d F1 H1 ω1 ⟨ds, h1, q1⟩ s1 hd1 r1 => by
    obtain ⟨a, vs, rfl, e, rl⟩ := h1.at hd1 r1
    exact ⟨a, vs, rfl, e, newL_ok hd1 rl.reverse q1 (w.mono s1)⟩⟩

/-! ### a, b, c = x, y, z -/
theorem rpl_three {K : PySem.W.Frag} {F : Hp} {us : List V} {a b c : D} (r : RpL K F us [a, b, c]) : ∃ u v w, us = [u, v, w] ∧ Rp K F u a ∧ Rp K F v b ∧ Rp K F w c := by
  cases r with
  | cons h t =>
    obtain ⟨v, w, rfl, h2, h3⟩ := rpl_two t
    exact ⟨_, v, w, rfl, h, h2, h3⟩
def dPar3 (i j l : Nat) (t : LTA) : LTS := fun L ρ ω => t ρ ω L.xc fun ds ω1 => ∃ a b c, ds = [a, b, c] ∧ L.nx (((ρ.set i (some a)).set j (some b)).set l (some c)) ω1
theorem xs_par3 {i j l : Nat} {x y z : Str} {a b c : Expr} {ta : TA} {da : LTA} {px py pz pt : Pos} {kt k2 pt2} (hc : X.calm = true) (hN : X.N.Nodup) (ha : XA X E [a, b, c] ta da) (hw : swappedStores [.Tuple [.Name x px, .Name y py, .Name z pz] kt pt] (.Tuple [a, b, c] k2 pt2) X.env = pure (some [x, y, z]) := by rfl)
    (hss : swapsWithSole [.Tuple [.Name x px, .Name y py, .Name z pz] kt pt] (.Tuple [a, b, c] k2 pt2) pos.line X.env = pure false := by rfl) (hi : X.N[i]? = some x := by rfl) (hj : X.N[j]? = some y := by rfl) (hl : X.N[l]? = some z := by rfl) (hij : i ≠ j := by decide) (hil : i ≠ l := by decide) (hjl : j ≠ l := by decide)
    (hx : X.env.scope.names.lookup x = some .local := by rfl) (hy : X.env.scope.names.lookup y = some .local := by rfl) (hz : X.env.scope.names.lookup z = some .local := by rfl) : XS X E (.Assign [.Tuple [.Name x px, .Name y py, .Name z pz] kt pt] (.Tuple [a, b, c] k2 pt2) pos) (tPar3 i j l ta) (dPar3 i j l da) :=
  ⟨ps_par3 hc hN hi hj hl hij hil hjl hx hy hz ha.pe hw hss, fun F H σ ρ ω L D hd hr q w => ha.lf F H σ ρ ω L.xc _ _ hd hr w.xc q fun vs ds F1 H1 ω1 ⟨a, b, c, e, q1⟩ s1 hd1 r1 => by
    subst e
    obtain ⟨u, v, w', rfl, ru, rv, rw'⟩ := rpl_three r1
    exact ⟨u, v, w', rfl, w.nx _ _ _ _ _ q1 s1 hd1 ((((hr.mono s1).set ru i).set rv j).set rw' l)⟩⟩

/-! ### zip of two lists or two tuples -/
def diZip (t : LTA) : LTI := fun ρ ω x k => t ρ ω x fun as ω1 => ∃ a b ds es, as = [a, b] ∧ ((SqOf ω1 a ds ∧ SqOf ω1 b es ∧ k (List.zipWith (fun d e => .tup [d, e]) ds es) (fun ω => SqOf ω a ds ∧ SqOf ω b es) ω1) ∨
  (a = .tup ds ∧ b = .tup es ∧ k (List.zipWith (fun d e => .tup [d, e]) ds es) (fun _ => True) ω1))
theorem zip_get {ds es : List D} {i : Nat} (h : i < (List.zipWith (fun d e => D.tup [d, e]) ds es).length) : ∃ d e, ds[i]? = some d ∧ es[i]? = some e ∧ (List.zipWith (fun d e => D.tup [d, e]) ds es)[i]? = some (.tup [d, e]) := by
  rw [List.length_zipWith] at h
  have h1 : i < ds.length := by omega
  have h2 : i < es.length := by omega
  refine ⟨ds[i], es[i], List.getElem?_eq_getElem h1, List.getElem?_eq_getElem h2, ?_⟩
  rw [List.getElem?_zipWith, List.getElem?_eq_getElem h1, List.getElem?_eq_getElem h2]
/-- a pair just made -/
theorem pair_new {K : PySem.W.Frag} {F H : Hp} {ω : Store} {T : Addr} {u v : V} {d e : D} (hd : Hd K F H ω) (hT : H T = none) (ru : Rp K F u d) (rv : Rp K F v e) : ∃ F2, Same F F2 ∧ Hd K F2 (upd H T (.tup [u, v])) ω ∧ Rp K F2 (.ref T) (.tup [d, e]) := by
  obtain ⟨h1, h2⟩ := hd.newF hT (.tup [u, v])
  exact ⟨_, h2, h1, .tup (.inl (.inl upd_same)) (.cons (ru.mono h2) (.cons (rv.mono h2) .nil))⟩
theorem walk_zipL {K : PySem.W.Frag} {F : Hp} {a b : Addr} {d e : D} {ds es : List D} (ra : Rp K F (.ref a) d) (rb : Rp K F (.ref b) e) : Walk K F (Itz K a b) (List.zipWith (fun d e => .tup [d, e]) ds es) (fun ω => SqOf ω d ds ∧ SqOf ω e es) := by
  refine ⟨fun i F' H ω s hd st hi => ?_, fun i v F' H H' ω s hd st y hi => ?_, fun F' H ω s hd st => ?_⟩
  all_goals
    obtain ⟨p, vs, e1, sq1, rl1⟩ := SqOf.at hd (ra.mono s) st.1
    obtain ⟨q, us, e2, sq2, rl2⟩ := SqOf.at hd (rb.mono s) st.2
    cases e1
    cases e2
  · obtain ⟨x, z, h1, h2, _⟩ := zip_get hi
    obtain ⟨u, h3, _⟩ := rl1.get h1
    obtain ⟨w, h4, _⟩ := rl2.get h2
    exact ⟨vs, us, u, w, sq1, sq2, h3, h4⟩
  · obtain ⟨x, z, h1, h2, h3⟩ := zip_get hi
    obtain ⟨T, u, w, rfl, hT, rfl, hu, hw⟩ := y
    obtain ⟨x', h4, ru⟩ := rl1.get' (hu vs sq1)
    obtain ⟨z', h5, rw'⟩ := rl2.get' (hw us sq2)
    rw [h1] at h4
    rw [h2] at h5
    cases h4
    cases h5
    obtain ⟨F2, s2, hd2, r2⟩ := pair_new hd hT ru rw'
    exact ⟨F2, _, s2, hd2, h3, r2⟩
  · refine ⟨vs, us, sq1, sq2, ?_⟩
    rw [List.length_zipWith, rl1.length, rl2.length]
    omega
theorem walk_zipT {K : PySem.W.Frag} {F : Hp} {a b : Addr} {ds es : List D} (ra : Rp K F (.ref a) (.tup ds)) (rb : Rp K F (.ref b) (.tup es)) : Walk K F (RZ.ItzT K a b) (List.zipWith (fun d e => .tup [d, e]) ds es) (fun _ => True) := by
  refine ⟨fun i F' H ω s hd st hi => ?_, fun i v F' H H' ω s hd st y hi => ?_, fun F' H ω s hd st => ?_⟩
  all_goals
    obtain ⟨p, vs, e1, sq1, rl1⟩ := tup_at hd (ra.mono s)
    obtain ⟨q, us, e2, sq2, rl2⟩ := tup_at hd (rb.mono s)
    cases e1
    cases e2
  · obtain ⟨x, z, h1, h2, _⟩ := zip_get hi
    obtain ⟨u, h3, _⟩ := rl1.get h1
    obtain ⟨w, h4, _⟩ := rl2.get h2
    exact ⟨vs, us, u, w, sq1, sq2, h3, h4⟩
  · obtain ⟨x, z, h1, h2, h3⟩ := zip_get hi
    obtain ⟨T, u, w, rfl, hT, rfl, hu, hw⟩ := y
    obtain ⟨x', h4, ru⟩ := rl1.get' (hu vs sq1)
    obtain ⟨z', h5, rw'⟩ := rl2.get' (hw us sq2)
    rw [h1] at h4
    rw [h2] at h5
    cases h4
    cases h5
    obtain ⟨F2, s2, hd2, r2⟩ := pair_new hd hT ru rw'
    exact ⟨F2, _, s2, hd2, h3, r2⟩
  · refine ⟨vs, us, sq1, sq2, ?_⟩
    rw [List.length_zipWith, rl1.length, rl2.length]
    omega
theorem xi_zip {e e2 : Expr} {ta : TA} {da : LTA} {p tpos : Pos} {elts : List Expr} {kk : Nat} (hm : X.mg "zip" = none) (ha : XA X E [e, e2] ta da) (hg : Gl X "zip" := by rfl) (hs : starEach [e, e2] X.env = (false, eval e X.env) :: starEach [e2] X.env := by rfl) (hpl : (backTo pos (starEach [e2] X.env)).any (·.1) = false := by rfl) :
    XI X E (.Tuple elts kk tpos) (.Call (.Name "zip" p) [e, e2] [] pos) (RZ.iZipA X.K ta) (diZip da) := ⟨RZ.pi_zipA hg hm ha.pe hs hpl, fun F H σ ρ ω x k R hd hr lx q w => ha.lf F H σ ρ ω x _ _ hd hr lx q fun vs as F1 H1 ω1 ⟨a, b, ds, es, e0, q1⟩ s1 hd1 r1 => by
  subst e0
  obtain ⟨u, v, rfl, ru, rv⟩ := rpl_two r1
  rcases q1 with ⟨h1, h2, q1⟩ | ⟨h1, h2, q1⟩
  · obtain ⟨p, us, rfl, sq1, rl1⟩ := h1.at hd1 ru
    obtain ⟨q, ws, rfl, sq2, rl2⟩ := h2.at hd1 rv
    exact ⟨p, q, us, ws, rfl, .inl ⟨sq1, sq2, w _ _ _ _ _ _ q1 s1 hd1 (walk_zipL ru rv)⟩⟩
  · subst h1 h2
    obtain ⟨p, us, rfl, sq1, rl1⟩ := tup_at hd1 ru
    obtain ⟨q, ws, rfl, sq2, rl2⟩ := tup_at hd1 rv
    exact ⟨p, q, us, ws, rfl, .inr ⟨sq1, sq2, w _ _ _ _ _ _ q1 s1 hd1 (walk_zipT ru rv)⟩⟩⟩
end
end L3
/-! L3j: the steps of a reading over data. -/
namespace L3
open PySem L2 PySem.Spec PyProof.Rows
open PySem (PyData)
section
variable {X : Cx} {Y : Sg} {ρ : Rho} {ω : Store} {x : KX} {k : KV} {L : LEnds} {d u : LTS} {t ta tb tl : LTE} {tt tu : LTT} {da dr : LTA} {s : S2} {i : Nat} {a b : D}
/-- .. of a truth value -/
def BlK (kb : Bool → Store → Prop) : KV := fun d ω => ∃ b, d = .bl b ∧ kb b ω
def TrK (kb : Bool → Store → Prop) : KV := fun d ω => ∃ b, TruD d ω b ∧ kb b ω
def IfK (b : Bool) (p q : Prop) : Prop := if b = true then p else q
theorem gIt {b : Bool} {p q : Prop} (h : b = true) (z : p) : IfK b p q := by
  unfold IfK
  rw [if_pos h]
  exact z
theorem gIff {b : Bool} {p q : Prop} (h : b = false) (z : q) : IfK b p q := by
  unfold IfK
  rw [if_neg (by rw [h]; exact Bool.false_ne_true)]
  exact z
theorem gI2 {b : Bool} {p q : Prop} (h1 : b = true → p) (h2 : b = false → q) : IfK b p q := by
  cases b with
  | true => exact gIt rfl (h1 rfl)
  | false => exact gIff rfl (h2 rfl)
theorem gBl {kb : Bool → Store → Prop} {b : Bool} (h : kb b ω) : BlK kb (.bl b) ω := ⟨b, rfl, h⟩
def LEnds.sq (L : LEnds) (u : LTS) : LEnds := { L with nx := u L }
theorem gSeq (h : d (L.sq u) ρ ω) : dSeq d u L ρ ω := h
theorem gNx (h : u L ρ ω) : (L.sq u).nx ρ ω := h
theorem gRtS {e : D} (h : L.rt e ω) : (L.sq u).rt e ω := h
theorem gCtS (h : L.ct ρ ω) : (L.sq u).ct ρ ω := h
theorem gBkS (h : L.bk ρ ω) : (L.sq u).bk ρ ω := h
theorem gNxL {n : Rho → Store → Prop} (h : n ρ ω) : (L.loop n).nx ρ ω := h
theorem gCtL {n : Rho → Store → Prop} (h : n ρ ω) : (L.loop n).ct ρ ω := h
theorem gBkL {n : Rho → Store → Prop} (h : L.nx ρ ω) : (L.loop n).bk ρ ω := h
theorem gRtL {n : Rho → Store → Prop} {e : D} (h : L.rt e ω) : (L.loop n).rt e ω := h
theorem gRtT {k : KV} {e : D} (h : k e ω) : (LEnds.top x k).rt e ω := RtK.of h
theorem gNxT {k : KV} (h : k .non ω) : (LEnds.top x k).nx ρ ω := RtK.of h
theorem gIfS (h : tt ρ ω L.xc fun b ω1 => IfK b (d L ρ ω1) (u L ρ ω1)) : dIfS tt d u L ρ ω := h
theorem gTest {kb : Bool → Store → Prop} (h : t ρ ω x (BlK kb)) : dTest t ρ ω x kb := h
theorem gTru {kb : Bool → Store → Prop} (h : t ρ ω x (TrK kb)) : dTru t ρ ω x kb := h
theorem gTrB {kb : Bool → Store → Prop} {b : Bool} (h : kb b ω) : TrK kb (.bl b) ω := ⟨b, rfl, h⟩
theorem gTrT {kb : Bool → Store → Prop} {ds : List D} (h : kb (!ds.isEmpty) ω) : TrK kb (.tup ds) ω := ⟨_, rfl, h⟩
theorem gTrL {kb : Bool → Store → Prop} {ds : List D} (h : kb (!ds.isEmpty) ω) : TrK kb (.lst ds) ω := ⟨_, rfl, h⟩
theorem gAnd {kb : Bool → Store → Prop} (h : tt ρ ω x fun c ω1 => IfK c (tu ρ ω1 x kb) (kb false ω1)) : dAnd tt tu ρ ω x kb := h
theorem gOr {kb : Bool → Store → Prop} (h : tt ρ ω x fun c ω1 => IfK c (kb true ω1) (tu ρ ω1 x kb)) : dOr tt tu ρ ω x kb := h
theorem gNot {kb : Bool → Store → Prop} (h : tt ρ ω x fun c ω1 => kb (!c) ω1) : dNot tt ρ ω x kb := h
theorem gAndV (h : ta ρ ω x (BlK fun c ω1 => IfK c (tb ρ ω1 x k) (k (.bl false) ω1))) : dAndV ta tb ρ ω x k := h
theorem gOrV (h : ta ρ ω x (BlK fun c ω1 => IfK c (k (.bl true) ω1) (tb ρ ω1 x k))) : dOrV ta tb ρ ω x k := h
theorem gNotV (h : ta ρ ω x (BlK fun c ω1 => k (.bl (!c)) ω1)) : dNotV ta ρ ω x k := h
theorem gIf (h : tt ρ ω x fun c ω1 => IfK c (ta ρ ω1 x k) (tb ρ ω1 x k)) : dIf tt ta tb ρ ω x k := h
theorem gOp (h : ta ρ ω x fun a ω1 => tb ρ ω1 x fun b ω2 => s a b ω2 x k) : dOp s ta tb ρ ω x k := h
theorem gUn {s : S1} (h : ta ρ ω x fun a ω1 => s a ω1 x k) : dUn s ta ρ ω x k := h
theorem gVar (h : ρ[i]? = some (some a)) (q : k a ω) : dVar i ρ ω x k := ⟨a, h, q⟩
theorem gC (q : k a ω) : dC a ρ ω x k := q
theorem gNil {k : List D → Store → Prop} (q : k [] ω) : dNil ρ ω x k := q
theorem gCons {k : List D → Store → Prop} (q : t ρ ω x fun d ω1 => da ρ ω1 x fun ds ω2 => k (d :: ds) ω2) : dCons t da ρ ω x k := q
theorem small_le {n : Nat} (h : n ≤ 1000000) : n ≤ sizeLine := Nat.le_trans h (by decide)
theorem small_lt {n : Nat} (h : n < 1000000) : n < sizeLine := Nat.lt_of_lt_of_le h (by decide)
/-- a displayed tuple, a displayed list: short -/
def TuK (k : KV) : List D → Store → Prop := fun ds ω => ds.length ≤ sizeLine ∧ k (.tup ds) ω
def LsK (k : KV) : List D → Store → Prop := fun ds ω => ds.length ≤ sizeLine ∧ NewL ds ω k
theorem gTup (h : da ρ ω x (TuK k)) : dTup da ρ ω x k := h
theorem gLst (h : da ρ ω x (LsK k)) : dLst da ρ ω x k := h
theorem gTu {ds : List D} (hz : ds.length ≤ sizeLine) (q : k (.tup ds) ω) : TuK k ds ω := ⟨hz, q⟩
theorem gLs {ds : List D} (hz : ds.length ≤ sizeLine) (q : k (.lst ds) ω) : LsK k ds ω := ⟨hz, .inl q⟩
theorem gLsP {ds : List D} (hz : ds.length ≤ sizeLine) (q : ∀ p, ω p = none → k (.ptr p) (sup ω p (.lst ds))) : LsK k ds ω := ⟨hz, .inr q⟩
theorem gNewF {ds : List D} (q : k (.lst ds) ω) : NewL ds ω k := .inl q
theorem gNewP {ds : List D} (q : ∀ p, ω p = none → k (.ptr p) (sup ω p (.lst ds))) : NewL ds ω k := .inr q
theorem gCB {s : SN} (h : da ρ ω x fun ds ω1 => s ds ω1 x k) : dCB s da ρ ω x k := h
theorem gCallK {S : DSp} {hD : List D → List D → List D} (h : da ρ ω x fun ds ω1 => dr ρ ω1 x fun es ω2 => S (hD ds es) ω2 x k) : dCallK S hD da dr ρ ω x k := h
theorem gRet (h : t ρ ω L.xc L.rt) : dRet t L ρ ω := h
theorem gAsg {g : LTG} (h : t ρ ω L.xc fun a ω1 => g a ρ ω1 L.xc L.nx) : dAsg t g L ρ ω := h
theorem gName {k : Rho → Store → Prop} (h : k (ρ.set i (some a)) ω) : gdName i a ρ ω x k := h
theorem gDrop (h : t ρ ω L.xc fun _ ω1 => L.nx ρ ω1) : dDrop t L ρ ω := h
theorem gNext (h : L.nx ρ ω) : dNext L ρ ω := h
theorem gPar {j : Nat} {t : LTA} (h : t ρ ω L.xc fun ds ω1 => ∃ a b, ds = [a, b] ∧ L.nx ((ρ.set i (some a)).set j (some b)) ω1) : dPar i j t L ρ ω := h
theorem gPar2 {j : Nat} {a b : D} {ρ : Rho} {n : Rho → Store → Prop} (h : n ((ρ.set i (some a)).set j (some b)) ω) : ∃ a' b', [a, b] = [a', b'] ∧ n ((ρ.set i (some a')).set j (some b')) ω := ⟨a, b, rfl, h⟩
theorem gSub {to ti : LTE} {k : Rho → Store → Prop} (h : to ρ ω x fun o ω1 => ti ρ ω1 x fun i ω2 => sSet o i a ω2 fun ω3 => k ρ ω3) : gdSub to ti a ρ ω x k := h
theorem gSl {s3 : S3} {lo hi : LTO} (h : t ρ ω x fun a ω1 => lo ρ ω1 x fun l ω2 => hi ρ ω2 x fun u ω3 => s3 a l u ω3 x k) : dSl s3 t lo hi ρ ω x k := h
def PaK (k : Option Int → Store → Prop) : KV := fun d ω => ∃ i, d = .int i ∧ k (some i) ω
theorem gPart {k : Option Int → Store → Prop} (h : t ρ ω x (PaK k)) : dPart t ρ ω x k := h
theorem gPa {k : Option Int → Store → Prop} {i : Int} (h : k (some i) ω) : PaK k (.int i) ω := ⟨i, rfl, h⟩
theorem gNoP {k : Option Int → Store → Prop} (h : k none ω) : dNoP ρ ω x k := h
theorem gBM {sm : SM} (h : t ρ ω x fun a ω1 => (∃ ds, SqOf ω1 a ds) ∧ da ρ ω1 x fun ds ω2 => sm a ds ω2 x k) : dBM sm t da ρ ω x k := h
theorem gBM0 {sm : SM} (h : t ρ ω x fun a ω1 => (∃ ds, SqOf ω1 a ds) ∧ sm a [] ω1 x k) : dBM0 sm t ρ ω x k := h
/-! ### the values -/
theorem vAddI {i j : Int} (q : k (.int (i + j)) ω) : sAdd (.int i) (.int j) ω x k := .inl ⟨i, j, rfl, rfl, q⟩
theorem vAddS {i j : Str} (hz : i.length + j.length ≤ sizeLine) (q : k (.str (i ++ j)) ω) : sAdd (.str i) (.str j) ω x k := .inr (.inl ⟨i, j, rfl, rfl, hz, q⟩)
theorem vAddL {ds es : List D} (h1 : LstOf ω a ds) (h2 : LstOf ω b es) (hz : ds.length + es.length ≤ sizeLine) (q : NewL (ds ++ es) ω k) : sAdd a b ω x k := .inr (.inr (.inl ⟨ds, es, h1, h2, hz, q⟩))
theorem vAddT {ds es : List D} (hz : ds.length + es.length ≤ sizeLine) (q : k (.tup (ds ++ es)) ω) : sAdd (.tup ds) (.tup es) ω x k := .inr (.inr (.inr (.inl ⟨ds, es, rfl, rfl, hz, q⟩)))
theorem vSub {i j : Int} (q : k (.int (i - j)) ω) : sSub (.int i) (.int j) ω x k := ⟨i, j, rfl, rfl, q⟩
theorem vMul {i j : Int} (h : CMul i j) (q : k (.int (i * j)) ω) : sMul (.int i) (.int j) ω x k := ⟨i, j, rfl, rfl, h, q⟩
theorem vFdiv {i j : Int} (h : CDivW i j) (q : k (.int (i / j)) ω) : sFdiv (.int i) (.int j) ω x k := ⟨i, j, rfl, rfl, h, q⟩
theorem vMod {i j : Int} (h : 0 < j) (q : k (.int (i % j)) ω) : sMod (.int i) (.int j) ω x k := ⟨i, j, rfl, rfl, h, q⟩
theorem vPow {i j : Int} (h : CPow i j) (q : k (.int (i ^ j.toNat)) ω) : sPow (.int i) (.int j) ω x k := ⟨i, j, rfl, rfl, h, q⟩
theorem vNeg {i : Int} (q : k (.int (-i)) ω) : sNeg (.int i) ω x k := ⟨i, rfl, q⟩
theorem vEqS {i j : Str} (q : k (.bl (decide (i = j))) ω) : sEq (.str i) (.str j) ω x k := .inl (.inl ⟨i, j, rfl, rfl, q⟩)
theorem vEqI {i j : Int} (q : k (.bl (decide (i = j))) ω) : sEq (.int i) (.int j) ω x k := .inl (.inr (.inl ⟨i, j, rfl, rfl, q⟩))
theorem vEqB {i j : Bool} (q : k (.bl (decide (i = j))) ω) : sEq (.bl i) (.bl j) ω x k := .inl (.inr (.inr ⟨i, j, rfl, rfl, q⟩))
theorem vNeS {i j : Str} (q : k (.bl (!decide (i = j))) ω) : sNe (.str i) (.str j) ω x k := .inl (.inl ⟨i, j, rfl, rfl, q⟩)
theorem vNeI {i j : Int} (q : k (.bl (!decide (i = j))) ω) : sNe (.int i) (.int j) ω x k := .inl (.inr (.inl ⟨i, j, rfl, rfl, q⟩))
theorem vNeB {i j : Bool} (q : k (.bl (!decide (i = j))) ω) : sNe (.bl i) (.bl j) ω x k := .inl (.inr (.inr ⟨i, j, rfl, rfl, q⟩))
theorem vEqD {c e : PyData} (h1 : Py ω a c) (h2 : Py ω b e) (h3 : c.canLay0 = true) (h4 : e.canLay0 = true) (h5 : min c.depth e.depth ≤ 64) (q : k (.bl (PyData.eqv c e)) ω) : sEq a b ω x k := .inr ⟨c, e, h1, h2, h3, h4, h5, q⟩
theorem vNeD {c e : PyData} (h1 : Py ω a c) (h2 : Py ω b e) (h3 : c.canLay0 = true) (h4 : e.canLay0 = true) (h5 : min c.depth e.depth ≤ 64) (q : k (.bl (!PyData.eqv c e)) ω) : sNe a b ω x k := .inr ⟨c, e, h1, h2, h3, h4, h5, q⟩
/-- a list, and whether it is empty: lst == [], lst != [] -/
theorem eqv_nil (ps : List PyData) : PyData.eqv (.list ps) (.list []) = ps.isEmpty := by cases ps <;> simp [PyData.eqv, PyData.eqvAll]
theorem canLay_nil : PyData.canLay0 (.list []) = true := by simp [PyData.canLay0, PyData.canLayAll0]
theorem depth_nil : PyData.depth (.list []) = 1 := by simp [PyData.depth, PyData.depthAll]
theorem vLt {i j : Int} (q : k (.bl (decide (i < j))) ω) : sLt (.int i) (.int j) ω x k := ⟨i, j, rfl, rfl, q⟩
theorem vLe {i j : Int} (q : k (.bl (decide (i ≤ j))) ω) : sLe (.int i) (.int j) ω x k := ⟨i, j, rfl, rfl, q⟩
theorem vGt {i j : Int} (q : k (.bl (decide (j < i))) ω) : sGt (.int i) (.int j) ω x k := ⟨i, j, rfl, rfl, q⟩
theorem vGe {i j : Int} (q : k (.bl (decide (j ≤ i))) ω) : sGe (.int i) (.int j) ω x k := ⟨i, j, rfl, rfl, q⟩
theorem vIxT {ds : List D} {i : Int} {e : D} (h : atI ds i = some e) (q : k e ω) : sIx Y (.tup ds) (.int i) ω x k := .inr (.inl ⟨ds, i, e, rfl, rfl, h, q⟩)
theorem vIxF {ds : List D} {i : Int} {e : D} (h : atI ds i = some e) (q : k e ω) : sIx Y (.lst ds) (.int i) ω x k := .inl ⟨ds, i, e, .fr ds, rfl, h, q⟩
theorem vIxP {p : Addr} {ds : List D} {i : Int} {e : D} (hp : ω p = some (.lst ds)) (h : atI ds i = some e) (q : k e ω) : sIx Y (.ptr p) (.int i) ω x k := .inl ⟨ds, i, e, .ce hp, rfl, h, q⟩
theorem vIxS {z : Str} {i : Int} {c : Nat} (hz : z.length ≤ sizeLine) (h : atI z.cps.toList i = some c) (q : k (.str ⟨#[c]⟩) ω) : sIx Y (.str z) (.int i) ω x k := .inr (.inr (.inl ⟨z, i, c, rfl, rfl, hz, h, q⟩))
theorem vIxK {p : Addr} {kvs : List (Key × D)} {z : Str} {e : D} (hp : ω p = some (.dK kvs)) (h : valD kvs (.inr z) = some e) (q : k e ω) : sIx Y (.ptr p) (.str z) ω x k := .inr (.inr (.inr (.inl ⟨p, kvs, .inr z, e, rfl, .inl hp, rfl, h, q⟩)))
theorem vIxKL {p : Addr} {u : HO} {kvs : List (Key × D)} {z : Str} {e : D} (hp : ω p = some (.dL u kvs)) (h : valD kvs (.inr z) = some e) (q : k e ω) : sIx Y (.ptr p) (.str z) ω x k := .inr (.inr (.inr (.inl ⟨p, kvs, .inr z, e, rfl, .inr ⟨u, hp⟩, rfl, h, q⟩)))
theorem vIxW {p : Addr} {z : Str} {e : D} (h : KD Y.K Y.w p z e) (q : k e ω) : sIx Y (.ptr p) (.str z) ω x k := .inr (.inr (.inr (.inr ⟨p, z, e, rfl, rfl, h, q⟩)))
theorem vInT {ds : List D} (h1 : Flat a) (h2 : ∀ d ∈ ds, Flat d) (q : k (.bl (inF a ds)) ω) : sIn a (.tup ds) ω x k := .inl ⟨ds, .inr rfl, h1, h2, q⟩
theorem vNinT {ds : List D} (h1 : Flat a) (h2 : ∀ d ∈ ds, Flat d) (q : k (.bl (!inF a ds)) ω) : sNin a (.tup ds) ω x k := .inl ⟨ds, .inr rfl, h1, h2, q⟩
theorem vInL {ds : List D} (hb : SqOf ω b ds) (h1 : Flat a) (h2 : ∀ d ∈ ds, Flat d) (q : k (.bl (inF a ds)) ω) : sIn a b ω x k := .inl ⟨ds, .inl hb, h1, h2, q⟩
theorem vNinL {ds : List D} (hb : SqOf ω b ds) (h1 : Flat a) (h2 : ∀ d ∈ ds, Flat d) (q : k (.bl (!inF a ds)) ω) : sNin a b ω x k := .inl ⟨ds, .inl hb, h1, h2, q⟩
theorem vSlT {ds : List D} {lo hi : Option Int} (q : k (.tup (cutD ds lo hi)) ω) : sSl (.tup ds) lo hi ω x k := .inr (.inl ⟨ds, rfl, q⟩)
theorem vSlL {ds : List D} {lo hi : Option Int} (h : SqOf ω a ds) (q : NewL (cutD ds lo hi) ω k) : sSl a lo hi ω x k := .inl ⟨ds, h, q⟩
theorem vMax2 {i j : Int} (q : k (.int (max i j)) ω) : sMax2 [.int i, .int j] ω x k := ⟨i, j, rfl, by
  have e : (if j > i then j else i) = max i j := by
    split <;> omega
  rw [e]
  exact q⟩
theorem vMin2 {i j : Int} (q : k (.int (min i j)) ω) : sMin2 [.int i, .int j] ω x k := ⟨i, j, rfl, by
  have e : (if j < i then j else i) = min i j := by
    split <;> omega
  rw [e]
  exact q⟩
theorem vAbs {i : Int} (q : k (.int (i.natAbs : Int)) ω) : sAbs [.int i] ω x k := ⟨i, rfl, by
  have e : (if i < 0 then -i else i) = (i.natAbs : Int) := by
    split <;> omega
  rw [e]
  exact q⟩
theorem vIntI {i : Int} (q : k (.int i) ω) : sInt [.int i] ω x k := .inl ⟨i, rfl, q⟩
theorem vIntB {c : Bool} (q : k (.int (if c then 1 else 0)) ω) : sInt [.bl c] ω x k := .inr ⟨c, rfl, q⟩
theorem vLenF {ds : List D} (q : k (.int (ds.length : Int)) ω) : sLen [.lst ds] ω x k := ⟨_, _, rfl, .inl ⟨ds, .fr ds, rfl⟩, q⟩
theorem vLenQ {ds : List D} (q : k (.int (ds.length : Int)) ω) : sLen [.sq ds] ω x k := ⟨_, _, rfl, .inl ⟨ds, .sq ds, rfl⟩, q⟩
theorem vLenT {ds : List D} (q : k (.int (ds.length : Int)) ω) : sLen [.tup ds] ω x k := ⟨_, _, rfl, .inr (.inl ⟨ds, rfl, rfl⟩), q⟩
theorem vLenP {p : Addr} {ds : List D} (h : ω p = some (.lst ds)) (q : k (.int (ds.length : Int)) ω) : sLen [.ptr p] ω x k := ⟨_, _, rfl, .inl ⟨ds, .ce h, rfl⟩, q⟩
theorem vSumF {ns : List Int} (q : k (.int ns.sum) ω) : sSum [.lst (ns.map D.int)] ω x k := ⟨_, ns, rfl, .fr _, q⟩
theorem vMax1 {ns : List Int} {m : Int} (h1 : m ∈ ns) (h2 : ∀ y ∈ ns, y ≤ m) (q : k (.int m) ω) : sMax1 [.lst (ns.map D.int)] ω x k := ⟨_, ns, m, rfl, .fr _, h1, h2, q⟩
theorem vAnyF {bs : List Bool} (q : k (.bl (bs.any id)) ω) : sAny [.lst (bs.map D.bl)] ω x k := ⟨_, bs, rfl, .fr _, q⟩
theorem vAllF {bs : List Bool} (q : k (.bl (bs.all id)) ω) : sAll [.lst (bs.map D.bl)] ω x k := ⟨_, bs, rfl, .fr _, q⟩
theorem vTupF {ds : List D} (q : k (.tup ds) ω) : sTuple [.lst ds] ω x k := ⟨_, ds, rfl, .inl (.fr ds), q⟩
theorem vTupT {ds : List D} (q : k (.tup ds) ω) : sTuple [.tup ds] ω x k := ⟨_, ds, rfl, .inr rfl, q⟩
theorem vTupP {p : Addr} {ds : List D} (h : ω p = some (.lst ds)) (q : k (.tup ds) ω) : sTuple [.ptr p] ω x k := ⟨_, ds, rfl, .inl (.ce h), q⟩
theorem vRepr {p : PyData} (h : Py ω a p) (h1 : p.showable = true) (h2 : p.hasDict = false) (h3 : p.depth ≤ 190) (h4 : p.shown.length ≤ sizeLine) (q : k (.str p.shown) ω) : sRepr [a] ω x k := ⟨a, p, rfl, h, h1, h2, h3, h4, q⟩
theorem rt_of {k : KV} {d : D} {ω : Store} (h : k d ω) : (LEnds.top x k).rt d ω := RtK.of h
/-- a comprehension whose turns change nothing -/
theorem lc_map {α : Type} {ti : LTI} {g : LTG} {te : LTE} {vs : List Nat} (l : List α) (e f : α → D) (hz : l.length < sizeLine) (hi : ∀ k0 : KI, (∀ stab : Store → Prop, stab ω → (∀ p ds, ω p = none → stab (sup ω p (.lst ds))) → k0 (l.map e) stab ω) → ti ρ ω x k0)
    (hg : ∀ a ∈ l, ∀ (ω' : Store) (k1 : KV), k1 (f a) ω' → g (e a) (wipeD ρ vs) ω' X0 fun ρ2 ω2 => te ρ2 ω2 X0 k1) (q : NewL (l.map f) ω k) : dLc ti g dYes te vs ρ ω x k := by
  refine hi _ fun stab st st2 p hp => ?_
  have len : ∀ i, ((l.take i).map f).length ≤ l.length := fun i => by
    rw [List.length_map, List.length_take]
    omega
  refine ⟨fun i ω' => ω' = sup ω p (.lst ((l.take i).map f)), by simp, fun i ω' e => e ▸ st2 p _ hp, fun i d ω' hd e => ?_, fun ω' e => ?_⟩
  · subst e
    rw [List.getElem?_map] at hd
    cases ha : l[i]? with
    | none =>
      rw [ha] at hd
      cases hd
    | some a =>
      rw [ha] at hd
      cases hd
      refine hg a (List.mem_of_getElem? ha) _ _ ⟨_, sup_same, Nat.lt_of_le_of_lt (len i) hz, ?_⟩
      show sup (sup ω p _) p _ = sup ω p (.lst ((l.take (i + 1)).map f))
      rw [sup_sup, List.take_add_one, ha, List.map_append] <;> rfl
  · rw [List.length_map, List.take_length] at e
    subst e
    rcases q with q | q
    · refine .inr ⟨_, sup_same, ?_⟩
      rw [del_sup hp]
      exact q
    · exact .inl (q p hp)
theorem iter_fr {ds : List D} {k0 : KI} (h : ∀ stab : Store → Prop, stab ω → (∀ p es, ω p = none → stab (sup ω p (.lst es))) → k0 ds stab ω) (ht : a = .lst ds ∨ a = .sq ds ∨ a = .tup ds) : ∃ es, (SqOf ω a es ∧ k0 es (stL a es) ω) ∨ (a = .tup es ∧ k0 es (fun _ => True) ω) := by
  rcases ht with e | e | e <;> subst e
  · exact ⟨ds, .inl ⟨.fr ds, h _ (SqOf.fr ds) fun _ _ _ => SqOf.fr ds⟩⟩
  · exact ⟨ds, .inl ⟨.sq ds, h _ (SqOf.sq ds) fun _ _ _ => SqOf.sq ds⟩⟩
  · exact ⟨ds, .inr ⟨rfl, h _ trivial fun _ _ _ => trivial⟩⟩
/-- over an expression that gives a frozen list or a tuple, and changes nothing -/
theorem lc_seq {α : Type} {g : LTG} {te : LTE} {vs : List Nat} (l : List α) (e f : α → D) (hi : ∀ k0 : KV, (∀ d, (d = .lst (l.map e) ∨ d = .sq (l.map e) ∨ d = .tup (l.map e)) → k0 d ω) → t ρ ω x k0) (hz : l.length < sizeLine)
    (hg : ∀ a ∈ l, ∀ (ω' : Store) (k1 : KV), k1 (f a) ω' → g (e a) (wipeD ρ vs) ω' X0 fun ρ2 ω2 => te ρ2 ω2 X0 k1) (q : NewL (l.map f) ω k) : dLc (diSeq t) g dYes te vs ρ ω x k :=
  lc_map l e f hz (fun k0 h => hi _ fun d hd => iter_fr h hd) hg q
end
end L3
namespace L3
open PySem L2 PySem.Spec PyProof.Rows
open PySem (PyData)
section
variable {X : Cx} {Y : Sg} {ρ : Rho} {ω : Store} {x : KX} {k : KV} {L : LEnds} {t : LTE} {a : D} {i : Nat}
/-- the same, what is told said otherwise -/
theorem lc_to {α : Type} {g : LTG} {te : LTE} {vs : List Nat} (l : List α) (e f : α → D) (out : List D) (ho : l.map f = out) (hi : ∀ k0 : KV, (∀ d, (d = .lst (l.map e) ∨ d = .sq (l.map e) ∨ d = .tup (l.map e)) → k0 d ω) → t ρ ω x k0) (hz : l.length < sizeLine)
    (hg : ∀ a ∈ l, ∀ (ω' : Store) (k1 : KV), k1 (f a) ω' → g (e a) (wipeD ρ vs) ω' X0 fun ρ2 ω2 => te ρ2 ω2 X0 k1) (q : NewL out ω k) : dLc (diSeq t) g dYes te vs ρ ω x k :=
  lc_seq l e f hi hz hg (by rw [ho]; exact q)
/-- a loop over written items, turn by turn -/
def forL (g : LTG) (tb : LTS) (L : LEnds) : List D → Rho → Store → Prop
  | [], ρ, ω => L.nx ρ ω
  | d :: ds, ρ, ω => g d ρ ω L.xc fun ρ' ω' => tb (L.loop (forL g tb L ds)) ρ' ω'
/-- behind the value that is walked -/
def ForK (g : LTG) (tb : LTS) (L : LEnds) (ρ : Rho) : KV := fun d ω1 => ∃ ds, (SqOf ω1 d ds ∧ ∃ I : Nat → Rho → Store → Prop, I 0 ρ ω1 ∧ (∀ i ρ ω, I i ρ ω → stL d ds ω) ∧ (∀ i d ρ ω, ds[i]? = some d → I i ρ ω → g d ρ ω L.xc fun ρ' ω' => tb (L.loop (I (i + 1))) ρ' ω') ∧ ∀ ρ ω, I ds.length ρ ω → L.nx ρ ω) ∨
  (d = .tup ds ∧ ∃ I : Nat → Rho → Store → Prop, I 0 ρ ω1 ∧ (∀ i ρ ω, I i ρ ω → True) ∧ (∀ i d ρ ω, ds[i]? = some d → I i ρ ω → g d ρ ω L.xc fun ρ' ω' => tb (L.loop (I (i + 1))) ρ' ω') ∧ ∀ ρ ω, I ds.length ρ ω → L.nx ρ ω)
theorem gFor {g : LTG} {tb : LTS} (h : t ρ ω L.xc (ForK g tb L ρ)) : dFor (diSeq t) g tb L ρ ω := h
theorem forK_inv {g : LTG} {tb : LTS} (ds : List D) (I : Nat → Rho → Store → Prop) (ha : a = .lst ds ∨ a = .sq ds ∨ a = .tup ds) (h0 : I 0 ρ ω) (ht : ∀ i d ρ ω, ds[i]? = some d → I i ρ ω → g d ρ ω L.xc fun ρ' ω' => tb (L.loop (I (i + 1))) ρ' ω') (he : ∀ ρ ω, I ds.length ρ ω → L.nx ρ ω) : ForK g tb L ρ a ω := by
  rcases ha with e | e | e <;> subst e
  · exact ⟨ds, .inl ⟨.fr ds, I, h0, fun _ _ _ _ => SqOf.fr ds, ht, he⟩⟩
  · exact ⟨ds, .inl ⟨.sq ds, I, h0, fun _ _ _ _ => SqOf.sq ds, ht, he⟩⟩
  · exact ⟨ds, .inr ⟨rfl, I, h0, fun _ _ _ _ => trivial, ht, he⟩⟩
theorem forK_lit {g : LTG} {tb : LTS} {ds : List D} (ha : a = .lst ds ∨ a = .sq ds ∨ a = .tup ds) (h : forL g tb L ds ρ ω) : ForK g tb L ρ a ω := by
  refine forK_inv ds (fun i ρ ω => forL g tb L (ds.drop i) ρ ω) ha h (fun i d ρ ω hd q => ?_) fun ρ ω q => ?_
  · have hl : i < ds.length := (List.getElem?_eq_some_iff.mp hd).1
    have e : ds.drop i = d :: ds.drop (i + 1) := by
      rw [List.drop_eq_getElem_cons hl, (List.getElem?_eq_some_iff.mp hd).2]
    have q : forL g tb L (ds.drop i) ρ ω := q
    rw [e] at q
    exact q
  · have q : forL g tb L (ds.drop ds.length) ρ ω := q
    rw [List.drop_length] at q
    exact q
theorem gForT {g : LTG} {tb : LTS} {ds : List D} (h : forL g tb L ds ρ ω) : ForK g tb L ρ (.tup ds) ω := forK_lit (.inr (.inr rfl)) h
theorem gForF {g : LTG} {tb : LTS} {ds : List D} (h : forL g tb L ds ρ ω) : ForK g tb L ρ (.lst ds) ω := forK_lit (.inl rfl) h
theorem gForC {g : LTG} {tb : LTS} {d : D} {ds : List D} (h : g d ρ ω L.xc fun ρ' ω' => tb (L.loop (forL g tb L ds)) ρ' ω') : forL g tb L (d :: ds) ρ ω := h
theorem gForN {g : LTG} {tb : LTS} (h : L.nx ρ ω) : forL g tb L [] ρ ω := h
/-- a loop over range(n) -/
theorem for_r1 {g : LTG} {tb : LTS} {da : LTA} (n : Nat) (I : Nat → Rho → Store → Prop) (hn : n < 1000000) (hi : ∀ k0 : List D → Store → Prop, k0 [.int (n : Int)] ω → da ρ ω L.xc k0) (h0 : I 0 ρ ω) (ht : ∀ i ρ ω, i < n → I i ρ ω → g (.int (i : Int)) ρ ω L.xc fun ρ' ω' => tb (L.loop (I (i + 1))) ρ' ω') (he : ∀ ρ ω, I n ρ ω → L.nx ρ ω) : dFor (diR1 da) g tb L ρ ω := by
  have hl : (rngD 0 n).length = n := by unfold rngD; rw [List.length_map, List.length_range]
  refine hi _ ⟨n, rfl, by omega, by omega, I, h0, fun _ _ _ _ => trivial, fun i d ρ ω hd q => ?_, fun ρ ω q => he ρ ω (by rw [Int.toNat_natCast, hl] at q; exact q)⟩
  rw [Int.toNat_natCast] at hd
  unfold rngD at hd
  rw [List.getElem?_map] at hd
  by_cases hlt : i < n
  · rw [List.getElem?_range hlt] at hd
    cases hd
    have e : ((0 : Int) + (i : Nat)) = (i : Int) := Int.zero_add _
    show g (.int ((0 : Int) + (i : Nat))) ρ ω L.xc _
    rw [e]
    exact ht i ρ ω hlt q
  · rw [List.getElem?_eq_none (by rw [List.length_range]; omega)] at hd
    cases hd
/-! ### flat things among flat things, by looking -/
def flatB : D → Bool
  | .non => true
  | .bl _ => true
  | .int _ => true
  | .str _ => true
  | _ => false
theorem flat_of {d : D} (h : flatB d = true) : Flat d := by
  cases d with
  | non => exact .non
  | bl b => exact .bl b
  | int i => exact .int i
  | str s => exact .str s
  | _ => cases h
theorem flats_of {ds : List D} (h : ds.all flatB = true) : ∀ d ∈ ds, Flat d := fun d hd => flat_of (List.all_eq_true.mp h d hd)
theorem vInTb {ds : List D} (h1 : flatB a = true) (h2 : ds.all flatB = true) (q : k (.bl (inF a ds)) ω) : sIn a (.tup ds) ω x k := vInT (flat_of h1) (flats_of h2) q
theorem vNinTb {ds : List D} (h1 : flatB a = true) (h2 : ds.all flatB = true) (q : k (.bl (!inF a ds)) ω) : sNin a (.tup ds) ω x k := vNinT (flat_of h1) (flats_of h2) q
theorem vInLb {ds : List D} (h1 : flatB a = true) (h2 : ds.all flatB = true) (q : k (.bl (inF a ds)) ω) : sIn a (.lst ds) ω x k := vInL (.fr ds) (flat_of h1) (flats_of h2) q
theorem vNinLb {ds : List D} (h1 : flatB a = true) (h2 : ds.all flatB = true) (q : k (.bl (!inF a ds)) ω) : sNin a (.lst ds) ω x k := vNinL (.fr ds) (flat_of h1) (flats_of h2) q
theorem cut1 (a : D) (ds : List D) : cutD (a :: ds) (some 1) none = ds := by
  unfold cutD
  have h : HT.sIx (a :: ds).length 0 (some ((1 : Nat) : Int)) = 1 := by rw [HT.sIx_nat, List.length_cons]; omega
  have h : HT.sIx (a :: ds).length 0 (some 1) = 1 := h
  rw [h, HT.sIx_none, List.length_cons, List.drop_succ_cons, List.drop_zero, Nat.add_sub_cancel, List.take_length]
theorem cut2 (a b : D) (ds : List D) : cutD (a :: b :: ds) (some 2) none = ds := by
  unfold cutD
  have h : HT.sIx (a :: b :: ds).length 0 (some ((2 : Nat) : Int)) = 2 := by rw [HT.sIx_nat, List.length_cons, List.length_cons]; omega
  have h : HT.sIx (a :: b :: ds).length 0 (some 2) = 2 := h
  rw [h, HT.sIx_none, List.length_cons, List.length_cons, List.drop_succ_cons, List.drop_succ_cons, List.drop_zero, show ds.length + 1 + 1 - 2 = ds.length by omega, List.take_length]
theorem vSlT1 {ds : List D} (q : k (.tup ds) ω) : sSl (.tup (a :: ds)) (some 1) none ω x k := vSlT (by rw [cut1]; exact q)
theorem vSlT2 {b : D} {ds : List D} (q : k (.tup ds) ω) : sSl (.tup (a :: b :: ds)) (some 2) none ω x k := vSlT (by rw [cut2]; exact q)
end
end L3
namespace L3
open PySem L2 PySem.Spec PyProof.Rows
/-- a promise that nothing asks for -/
theorem Tx.no {g : Bool} {P : Program} {w : World} {K : PySem.W.Frag} {mg : Str → Option Value} {base : Heap} {k : Nat} {x : Str} {st : Stmt} {ps : List Str} {S : DSp} (T : Tx K mg x st ps) (no : ∀ ds ω x k, ¬ S ds ω x k) : Df g P w K mg base CX0 k x st ps S := by
  obtain ⟨f, fd, F, hm, hb⟩ := T.ex
  exact ⟨f, fd, ⟨fun vs H Q E ⟨_, _, _, _, _, _, _, q, _⟩ => absurd q (no _ _ _ _), fun A out s H args us vs Q E _ _ _ _ _ ⟨_, _, _, _, _, _, _, q, _⟩ => absurd q (no _ _ _ _)⟩, hm, F, hb⟩
end L3
/-! L3k: the rules once more, by what of the context the readings lean on (so that they fit within comprehensions). -/
namespace L3
open PySem L2 PySem.Spec PyProof.Rows
open PySem (PyData)
structure YE (X : Cx) (Y : Sg) (E : XK) (e : Expr) (te : TE) (t : LTE) : Prop where
  y : Y = sg X
  x : XE X E e te t
structure YA (X : Cx) (Y : Sg) (E : XK) (es : List Expr) (te : TA) (t : LTA) : Prop where
  y : Y = sg X
  x : XA X E es te t
structure YT (X : Cx) (Y : Sg) (E : XK) (e : Expr) (te : TT) (t : LTT) : Prop where
  y : Y = sg X
  x : XT X E e te t
structure YW (X : Cx) (Y : Sg) (E : XK) (e : Expr) (te : TT) (t : LTT) : Prop where
  y : Y = sg X
  x : XW X E e te t
structure YTs (X : Cx) (Y : Sg) (E : XK) (es : List Expr) (tt : TT) (t : LTT) : Prop where
  y : Y = sg X
  x : XTs X E es tt t
structure YS (X : Cx) (Y : Sg) (E : XK) (st : Stmt) (ts : TS) (t : LTS) : Prop where
  y : Y = sg X
  x : XS X E st ts t
structure YSs (X : Cx) (Y : Sg) (E : XK) (st : List Stmt) (ts : TS) (t : LTS) : Prop where
  y : Y = sg X
  x : XSs X E st ts t
structure YG (X : Cx) (Y : Sg) (E : XK) (e : Expr) (tg : TG) (g : LTG) : Prop where
  y : Y = sg X
  x : XG X E e tg g
structure YGs (X : Cx) (Y : Sg) (E : XK) (es : List Expr) (tg : TGs) (g : LTGs) : Prop where
  y : Y = sg X
  x : XGs X E es tg g
structure YI (X : Cx) (Y : Sg) (E : XK) (tg iter : Expr) (wi : TI) (t : LTI) : Prop where
  y : Y = sg X
  x : XI X E tg iter wi t
structure YOp (X : Cx) (Y : Sg) (E : XK) (e : Option Expr) (to : TO) (t : LTO) : Prop where
  y : Y = sg X
  x : XO X E e to t
structure YP (X : Cx) (Y : Sg) (E : XK) (pos : Pos) (ks : List (Option Expr)) (vs : List Expr) (trs : List (TE × TE)) (ds : List (LTE × LTE)) : Prop where
  y : Y = sg X
  x : XP X E pos ks vs trs ds
structure YKw (X : Cx) (Y : Sg) (E : XK) (kws : List Keyword) (te : TA) (t : LTA) : Prop where
  y : Y = sg X
  x : XKw X E kws te t
structure YO (X : Cx) (Y : Sg) (E : XK) (f : Value → Value → Sem Value) (r : R2) (s : S2) : Prop where
  y : Y = sg X
  x : OX X E f r s
structure YIx (X : Cx) (Y : Sg) (E : XK) (r : R2) (s : S2) : Prop where
  y : Y = sg X
  x : IX X E r s
structure YSl (X : Cx) (Y : Sg) (E : XK) (r : V → Option Int → Option Int → Hp → VK → Prop) (s : S3) : Prop where
  y : Y = sg X
  x : SX X E r s
structure YCl (X : Cx) (Y : Sg) (E : XK) (f : Value) (r : List V → Hp → VK → Prop) (s : SN) : Prop where
  y : Y = sg X
  x : CL X E f r s
section
variable {X : Cx} {Y : Sg} {E : XK}
/-! ### operators -/
theorem yo_add (hy : Y = sg X := by rfl) : YO X Y E (binaryOp .Add) (rAdd Y.K) sAdd := by subst hy; exact ⟨rfl, ox_add⟩
theorem yo_sub (hy : Y = sg X := by rfl) : YO X Y E (binaryOp .Sub) (rI0 fun i j => .int (i - j)) sSub := ⟨hy, ox_sub⟩
theorem yo_mul (hy : Y = sg X := by rfl) : YO X Y E (binaryOp .Mult) (rI CMul fun i j => .int (i * j)) sMul := ⟨hy, ox_mul⟩
theorem yo_fdiv (hy : Y = sg X := by rfl) : YO X Y E (binaryOp .FloorDiv) (rI CDivW fun i j => .int (i / j)) sFdiv := ⟨hy, ox_fdiv⟩
theorem yo_mod (hy : Y = sg X := by rfl) : YO X Y E (binaryOp .Mod) (rI (fun _ j => 0 < j) fun i j => .int (i % j)) sMod := ⟨hy, ox_mod⟩
theorem yo_pow (hy : Y = sg X := by rfl) : YO X Y E (binaryOp .Pow) (rI CPow fun i j => .int (i ^ j.toNat)) sPow := ⟨hy, ox_pow⟩
theorem yo_shl (hy : Y = sg X := by rfl) : YO X Y E (binaryOp .LShift) (rI CPow fun i j => .int (i * 2 ^ j.toNat)) sShl := ⟨hy, ox_shl⟩
theorem yo_shr (hy : Y = sg X := by rfl) : YO X Y E (binaryOp .RShift) (rI (fun _ j => 0 ≤ j) fun i j => .int (i / 2 ^ j.toNat)) sShr := ⟨hy, ox_shr⟩
theorem yo_band (hy : Y = sg X := by rfl) : YO X Y E (binaryOp .BitAnd) (rI0 fun i j => .int (Builtin.bitAnd i j)) sBand := ⟨hy, ox_band⟩
theorem yo_eq (hu : X.A.units + 64 < cLine) (hy : Y = sg X := by rfl) : YO X Y E (compareOp .Eq) (rEqX Y.K id) sEq := by subst hy; exact ⟨rfl, ox_eq hu⟩
theorem yo_ne (hu : X.A.units + 64 < cLine) (hy : Y = sg X := by rfl) : YO X Y E (compareOp .NotEq) (rEqX Y.K not) sNe := by subst hy; exact ⟨rfl, ox_ne hu⟩
theorem yo_lt (hy : Y = sg X := by rfl) : YO X Y E (compareOp .Lt) (rI0 fun i j => .bl (decide (i < j))) sLt := ⟨hy, ox_lt⟩
theorem yo_le (hy : Y = sg X := by rfl) : YO X Y E (compareOp .LtE) (rI0 fun i j => .bl (decide (i ≤ j))) sLe := ⟨hy, ox_le⟩
theorem yo_gt (hy : Y = sg X := by rfl) : YO X Y E (compareOp .Gt) (rI0 fun i j => .bl (decide (j < i))) sGt := ⟨hy, ox_gt⟩
theorem yo_ge (hy : Y = sg X := by rfl) : YO X Y E (compareOp .GtE) (rI0 fun i j => .bl (decide (j ≤ i))) sGe := ⟨hy, ox_ge⟩
theorem yo_is (hy : Y = sg X := by rfl) : YO X Y E (compareOp .Is) rIsX sIs := ⟨hy, ox_is⟩
theorem yo_isnot (hy : Y = sg X := by rfl) : YO X Y E (compareOp .IsNot) rIsNotX sIsNot := ⟨hy, ox_isnot⟩
theorem yo_in (hu : X.A.units + 1 < cLine) (hy : Y = sg X := by rfl) : YO X Y E (compareOp .In) (rInX Y.K) sIn := by subst hy; exact ⟨rfl, ox_in hu⟩
theorem yo_nin (hu : X.A.units + 1 < cLine) (hy : Y = sg X := by rfl) : YO X Y E (compareOp .NotIn) (rNinX Y.K) sNin := by subst hy; exact ⟨rfl, ox_nin hu⟩
theorem yi_any (hu : X.A.units + 1 < cLine) (hy : Y = sg X := by rfl) : YIx X Y E (rIxA Y.K Y.w) (sIx Y) := by subst hy; exact ⟨rfl, ix_any hu⟩
theorem yl_any (hy : Y = sg X := by rfl) : YSl X Y E (rSlX3 Y.K) sSl := by subst hy; exact ⟨rfl, sx_any⟩
/-! ### built-in calls -/
theorem yc_repr (hg : X.A.guards = some []) (hu : X.A.units + 200 < cLine) (hy : Y = sg X := by rfl) : YCl X Y E (.builtin "repr") (rRepr Y.K) sRepr := by subst hy; exact ⟨rfl, cl_repr hg hu⟩
theorem yc_len (hy : Y = sg X := by rfl) : YCl X Y E (.builtin "len") (rLen Y.K) sLen := by subst hy; exact ⟨rfl, cl_len⟩
theorem yc_abs (hy : Y = sg X := by rfl) : YCl X Y E (.builtin "abs") (fun xs H Q => ∃ i, xs = [.int i] ∧ Q (.int (if i < 0 then -i else i)) H) sAbs := ⟨hy, cl_abs⟩
theorem yc_int (hy : Y = sg X := by rfl) : YCl X Y E (.type "int") (fun xs H Q => (∃ i, xs = [.int i] ∧ Q (.int i) H) ∨ ∃ k, xs = [.bl k] ∧ Q (.int (if k then 1 else 0)) H) sInt := ⟨hy, cl_int⟩
theorem yc_max2 (hc : X.calm = true) (hy : Y = sg X := by rfl) : YCl X Y E (.builtin "max") (fun xs H Q => ∃ i j, xs = [.int i, .int j] ∧ Q (.int (if j > i then j else i)) H) sMax2 := ⟨hy, cl_max2 hc⟩
theorem yc_min2 (hc : X.calm = true) (hy : Y = sg X := by rfl) : YCl X Y E (.builtin "min") (fun xs H Q => ∃ i j, xs = [.int i, .int j] ∧ Q (.int (if j < i then j else i)) H) sMin2 := ⟨hy, cl_min2 hc⟩
theorem yc_max1 (hc : X.calm = true) (hy : Y = sg X := by rfl) : YCl X Y E (.builtin "max") (rMax Y.K) sMax1 := by subst hy; exact ⟨rfl, cl_max1 hc⟩
theorem yc_min1 (hc : X.calm = true) (hy : Y = sg X := by rfl) : YCl X Y E (.builtin "min") (rMin Y.K) sMin1 := by subst hy; exact ⟨rfl, cl_min1 hc⟩
theorem yc_sum (hc : X.calm = true) (hy : Y = sg X := by rfl) : YCl X Y E (.builtin "sum") (rSum Y.K) sSum := by subst hy; exact ⟨rfl, cl_sum hc⟩
theorem yc_any (hc : X.calm = true) (hy : Y = sg X := by rfl) : YCl X Y E (.builtin "any") (rAny Y.K) sAny := by subst hy; exact ⟨rfl, cl_any hc⟩
theorem yc_all (hc : X.calm = true) (hy : Y = sg X := by rfl) : YCl X Y E (.builtin "all") (rAll Y.K) sAll := by subst hy; exact ⟨rfl, cl_all hc⟩
theorem yc_tuple (hy : Y = sg X := by rfl) : YCl X Y E (.type "tuple") (rTuple Y.K) sTuple := by subst hy; exact ⟨rfl, cl_tuple⟩
theorem yc_list (hy : Y = sg X := by rfl) : YCl X Y E (.type "list") (rList Y.K) sList := by subst hy; exact ⟨rfl, cl_list⟩
/-! ### expressions -/
variable {a b c e o : Expr} {es rest : List Expr} {ta tb te to : TE} {da db de do_ : LTE} {pos apos cpos : Pos} {tt tu : TT} {dt du : LTT} {tA : TA} {dA : LTA}
theorem yv (i : Nat) {x : Str} {pos : Pos} (hy : Y = sg X := by rfl) (hN : X.N[i]? = some x := by rfl) (hv : Vis X.env.scope x := by first | exact Or.inl rfl | exact Or.inr (Or.inl rfl) | exact Or.inr (Or.inr rfl)) (hd : (x == ("__debug__" : Str)) = false := by decide)
    (hcd : (x == ("__classdict__" : Str)) = false := by decide) : YE X Y E (.Name x pos) (tVar i) (dVar i) := ⟨hy, xv i hN hv hd hcd⟩
theorem yint {i : Int} {j pos} (hy : Y = sg X := by rfl) : YE X Y E (.Constant (.int i) j pos) (tC (.int i)) (dC (.int i)) := ⟨hy, xi⟩
theorem ybl {b : Bool} {j pos} (hy : Y = sg X := by rfl) : YE X Y E (.Constant (.bool b) j pos) (tC (.bl b)) (dC (.bl b)) := ⟨hy, xb⟩
theorem ynon {j pos} (hy : Y = sg X := by rfl) : YE X Y E (.Constant .none j pos) (tC .non) (dC .non) := ⟨hy, xn⟩
theorem ystr {s : Str} {j pos} (hy : Y = sg X := by rfl) : YE X Y E (.Constant (.str s) j pos) (tC (.str s)) (dC (.str s)) := ⟨hy, xs⟩
theorem yg {K : PySem.W.Frag} {mg : Str → Option Value} {x : Str} {v : V} {d : D} {pos : Pos} (h : CstD K mg x v d) (hy : Y = sg X := by rfl) (hK : X.K = K := by rfl) (hm : X.mg = mg := by rfl) (hg : Gl X x := by rfl) (hd : (x == ("__debug__" : Str)) = false := by decide) : YE X Y E (.Name x pos) (tC v) (dC d) := by
  subst hK hm
  exact ⟨hy, xg h hg hd⟩
theorem ye_bin {op : Operator} {r : R2} {s : S2} (h : YO X Y E (binaryOp op) r s) (ha : YE X Y E a ta da) (hb : YE X Y E b tb db) : YE X Y E (.BinOp a op b pos) (tOp r ta tb) (dOp s da db) := ⟨h.y, xe_bin h.x ha.x hb.x⟩
theorem ye_cmp {op : CmpOp} {r : R2} {s : S2} (h : YO X Y E (compareOp op) r s) (ha : YE X Y E a ta da) (hb : YE X Y E b tb db) (hm : behindInMarks op b = false := by first | exact nobehind _ (by decide) (by decide) | rfl) : YE X Y E (.Compare a [op] [b] pos) (tOp r ta tb) (dOp s da db) := ⟨h.y, xe_cmp h.x ha.x hb.x hm⟩
theorem yt_cmp {op : CmpOp} {r : R2} {s : S2} (h : YO X Y E (compareOp op) r s) (ha : YE X Y E a ta da) (hb : YE X Y E b tb db) (hm : behindInMarks op b = false := by first | exact nobehind _ (by decide) (by decide) | rfl) : YT X Y E (.Compare a [op] [b] pos) (tTest (tOp r ta tb)) (dTest (dOp s da db)) := ⟨h.y, xt_cmp h.x ha.x hb.x hm⟩
theorem ye_ix {r : R2} {s : S2} (h : YIx X Y E r s) (ha : YE X Y E a ta da) (hb : YE X Y E b tb db) (hs : PlainIx b := by exact fun _ _ => rfl) : YE X Y E (.Subscript a b pos) (tOp r ta tb) (dOp s da db) := ⟨h.y, xe_ix h.x ha.x hb.x hs⟩
theorem ye_neg (ha : YE X Y E a ta da) : YE X Y E (.UnaryOp .USub a pos) (tUn (rU fun i => .int (-i)) ta) (dUn sNeg da) := ⟨ha.y, xe_neg ha.x⟩
theorem yt_val (h : YE X Y E e te de) (he : ∀ whole, isTrue e X.env whole = (do let v ← whole; standAt e.pos; holding [v] (truthy v)) := by intro _; rfl) : YT X Y E e (tB te) (dTest de) := ⟨h.y, xt_val h.x he⟩
theorem yt_tru (h : YE X Y E e te de) (he : ∀ whole, isTrue e X.env whole = (do let v ← whole; standAt e.pos; holding [v] (truthy v)) := by intro _; rfl) : YT X Y E e (tTruV Y.K te) (dTru de) := by
  obtain ⟨hy, h⟩ := h
  subst hy
  exact ⟨rfl, xt_tru h he⟩
theorem yw_and1 (h : YT X Y E a tt dt) : YW X Y E (.BoolOp .And [a] pos) tt dt := ⟨h.y, xw_and1 h.x⟩
theorem yw_or1 (h : YT X Y E a tt dt) : YW X Y E (.BoolOp .Or [a] pos) tt dt := ⟨h.y, xw_or1 h.x⟩
theorem yw_and (h : YT X Y E a tt dt) (h' : YW X Y E (.BoolOp .And (b :: rest) pos) tu du) : YW X Y E (.BoolOp .And (a :: b :: rest) pos) (tAnd tt tu) (dAnd dt du) := ⟨h.y, xw_and h.x h'.x⟩
theorem yw_or (h : YT X Y E a tt dt) (h' : YW X Y E (.BoolOp .Or (b :: rest) pos) tu du) : YW X Y E (.BoolOp .Or (a :: b :: rest) pos) (tOr tt tu) (dOr dt du) := ⟨h.y, xw_or h.x h'.x⟩
theorem YW.yt (h : YW X Y E e tt dt) : YT X Y E e tt dt := ⟨h.y, h.x.xt⟩
theorem yt_not (h : YT X Y E a tt dt) : YT X Y E (.UnaryOp .Not a pos) (tNot tt) (dNot dt) := ⟨h.y, xt_not h.x⟩
theorem ye_one {op} (h : YE X Y E a ta da) : YE X Y E (.BoolOp op [a] pos) ta da := ⟨h.y, xe_one h.x⟩
theorem ye_and (ha : YE X Y E a ta da) (hb : YE X Y E (.BoolOp .And (b :: rest) pos) tb db) : YE X Y E (.BoolOp .And (a :: b :: rest) pos) (tAndV ta tb) (dAndV da db) := ⟨ha.y, xe_and ha.x hb.x⟩
theorem ye_or (ha : YE X Y E a ta da) (hb : YE X Y E (.BoolOp .Or (b :: rest) pos) tb db) : YE X Y E (.BoolOp .Or (a :: b :: rest) pos) (tOrV ta tb) (dOrV da db) := ⟨ha.y, xe_or ha.x hb.x⟩
theorem ye_not (ha : YE X Y E a ta da) : YE X Y E (.UnaryOp .Not a pos) (tNotV ta) (dNotV da) := ⟨ha.y, xe_not ha.x⟩
theorem ye_if (hc : YT X Y E c tt dt) (ha : YE X Y E a ta da) (hb : YE X Y E b tb db) : YE X Y E (.IfExp c a b pos) (tIf tt ta tb) (dIf dt da db) := ⟨hc.y, xe_if hc.x ha.x hb.x⟩
theorem ya_nil (hy : Y = sg X := by rfl) : YA X Y E [] tNil dNil := ⟨hy, xa_nil⟩
theorem ya_cons (h : YE X Y E e te de) (h' : YA X Y E es tA dA) (hs : starEach (e :: es) X.env = (false, eval e X.env) :: starEach es X.env := by rfl) : YA X Y E (e :: es) (tCons te tA) (dCons de dA) := ⟨h.y, xa_cons h.x h'.x hs⟩
theorem ye_tup {x1} (h : YA X Y E es tA dA) : YE X Y E (.Tuple es x1 pos) (tTup tA) (dTup dA) := ⟨h.y, xe_tup h.x⟩
theorem ye_lst (h : YA X Y E es tA dA) : YE X Y E (.List es pos) (tLst tA) (dLst dA) := ⟨h.y, xe_lst h.x⟩
theorem ye_cb {id : String} {x : Str} {p : Pos} {mg : Str → Option Value} {r : List V → Hp → VK → Prop} {s : SN} (h : YCl X Y E (.builtin id) r s) (hm : mg x = none) (hv : bootBuiltins x = some (.builtin id)) (ha : YA X Y E (e :: es) tA dA) (hmg : X.mg = mg := by rfl) (hg : Gl X x := by rfl) (hn : x ≠ "__name__" := by decide) (hdb : (x == ("__debug__" : Str)) = false := by decide)
    (he : starEach (e :: es) X.env = (false, eval e X.env) :: starEach es X.env := by rfl) (hpl : (backTo pos (starEach es X.env)).any (·.1) = false := by rfl) : YE X Y E (.Call (.Name x p) (e :: es) [] pos) (tCB r tA) (dCB s dA) := by
  subst hmg
  exact ⟨h.y, xe_cb h.x hm hv ha.x hg hn hdb he hpl⟩
theorem ye_ct {T : String} {x : Str} {p : Pos} {mg : Str → Option Value} {r : List V → Hp → VK → Prop} {s : SN} (h : YCl X Y E (.type T) r s) (hm : mg x = none) (hv : bootBuiltins x = some (.type T)) (ha : YA X Y E (e :: es) tA dA) (hmg : X.mg = mg := by rfl) (hg : Gl X x := by rfl) (hn : x ≠ "__name__" := by decide) (hdb : (x == ("__debug__" : Str)) = false := by decide)
    (he : starEach (e :: es) X.env = (false, eval e X.env) :: starEach es X.env := by rfl) (hpl : (backTo pos (starEach es X.env)).any (·.1) = false := by rfl) : YE X Y E (.Call (.Name x p) (e :: es) [] pos) (tCB r tA) (dCB s dA) := by
  subst hmg
  exact ⟨h.y, xe_ct h.x hm hv ha.x hg hn hdb he hpl⟩
theorem yp_none (hy : Y = sg X := by rfl) : YOp X Y E none tNoPart dNoP := ⟨hy, xo_none⟩
theorem yp_some (h : YE X Y E e te de) : YOp X Y E (some e) (tPart te) (dPart de) := ⟨h.y, xo_some h.x⟩
theorem ye_slice {lo hi : Option Expr} {p2 : Pos} {r : V → Option Int → Option Int → Hp → VK → Prop} {s : S3} {tl th : TO} {dl dh : LTO} (hs : YSl X Y E r s) (he : YE X Y E e te de) (hl : YOp X Y E lo tl dl) (hh : YOp X Y E hi th dh) :
    YE X Y E (.Subscript e (.Slice lo hi none p2) pos) (tSl r te tl th) (dSl s de dl dh) := ⟨hs.y, xe_slice hs.x he.x hl.x hh.x⟩
theorem ye_rev {kk : Nat} {p1 p2 p3 : Pos} (h : YE X Y E e te de) : YE X Y E (.Subscript e (.Slice none none (some (.UnaryOp .USub (.Constant (.int 1) kk p1) p2)) p3) pos) (tRevL Y.K te) (dRev de) := by
  obtain ⟨hy, h⟩ := h
  subst hy
  exact ⟨rfl, xe_rev h⟩
theorem ye_dnew (hy : Y = sg X := by rfl) : YE X Y E (.Dict [] [] pos) tDNewK dDnew := ⟨hy, xe_dnew⟩
theorem yd_nil (hy : Y = sg X := by rfl) : YP X Y E pos [] [] [] [] := ⟨hy, xp_nil⟩
theorem yd_cons {ks : List (Option Expr)} {vs : List Expr} {trs : List (TE × TE)} {ds : List (LTE × LTE)} (ha : YE X Y E a ta da) (hb : YE X Y E b tb db) (h : YP X Y E pos ks vs trs ds) : YP X Y E pos (some a :: ks) (b :: vs) ((ta, tb) :: trs) ((da, db) :: ds) := ⟨h.y, xp_cons ha.x hb.x h.x⟩
theorem ye_disp {keys : List (Option Expr)} {values : List Expr} {trs : List (TE × TE)} {ds : List (LTE × LTE)} (h : YP X Y E pos keys values trs ds) (hall : keys.all (·.isSome) = true := by rfl) (hl : keys.length = values.length := by rfl) (h0 : keys ≠ [] := by exact fun z => by cases z) (h15 : keys.length ≤ 15 := by decide) :
    YE X Y E (.Dict keys values pos) (tDisp trs) (dDisp ds) := ⟨h.y, xe_disp h.x hall hl h0 h15⟩
/-! ### methods -/
theorem ye_append (ho : YE X Y E o to do_) (ha : YA X Y E (e :: es) tA dA) (hbase : attributeBase o "append" X.env (eval o X.env) = eval o X.env := by rfl)
    (hfew : ((backTo cpos (starEach (e :: es) X.env)).all (fun x => !x.1) && (backToKw cpos (keywordEach [] X.env)).all (fun x => x.1.isSome) && decide ((e :: es).length + ([] : List Keyword).length + (if ([] : List Keyword).isEmpty then 0 else 1) < 30)) = true := by rfl)
    (hline : (apos.endLine == cpos.line) = true := by rfl) (hs : starEach (e :: es) X.env = (false, eval e X.env) :: starEach es X.env := by rfl) (hplain : (backTo cpos (starEach es X.env)).any (·.1) = false := by rfl) :
    YE X Y E (.Call (.Attribute o "append" apos) (e :: es) [] cpos) (tBM Y.K "list" rAppend to tA) (dBM sAppend do_ dA) := by
  obtain ⟨hy, ho⟩ := ho
  subst hy
  exact ⟨rfl, xe_append ho ha.x hbase hfew hline hs hplain⟩
theorem ye_extend (ho : YE X Y E o to do_) (ha : YA X Y E (e :: es) tA dA) (hbase : attributeBase o "extend" X.env (eval o X.env) = eval o X.env := by rfl)
    (hfew : ((backTo cpos (starEach (e :: es) X.env)).all (fun x => !x.1) && (backToKw cpos (keywordEach [] X.env)).all (fun x => x.1.isSome) && decide ((e :: es).length + ([] : List Keyword).length + (if ([] : List Keyword).isEmpty then 0 else 1) < 30)) = true := by rfl)
    (hline : (apos.endLine == cpos.line) = true := by rfl) (hs : starEach (e :: es) X.env = (false, eval e X.env) :: starEach es X.env := by rfl) (hplain : (backTo cpos (starEach es X.env)).any (·.1) = false := by rfl) :
    YE X Y E (.Call (.Attribute o "extend" apos) (e :: es) [] cpos) (tBM Y.K "list" rExtend to tA) (dBM sExtend do_ dA) := by
  obtain ⟨hy, ho⟩ := ho
  subst hy
  exact ⟨rfl, xe_extend ho ha.x hbase hfew hline hs hplain⟩
theorem ye_pop (ho : YE X Y E o to do_) (hbase : attributeBase o "pop" X.env (eval o X.env) = eval o X.env := by rfl) (hline : (apos.endLine == cpos.line) = true := by rfl) :
    YE X Y E (.Call (.Attribute o "pop" apos) [] [] cpos) (tBM0 Y.K "list" rPop to) (dBM0 sPop do_) := by
  obtain ⟨hy, ho⟩ := ho
  subst hy
  exact ⟨rfl, xe_pop ho hbase hline⟩
/-! ### targets, statements -/
theorem yg_name {i : Nat} {x : Str} (hN : X.N.Nodup) (hy : Y = sg X := by rfl) (hi : X.N[i]? = some x := by rfl) (hx : Loc X.env.scope x := by first | exact Or.inl rfl | exact Or.inr rfl)
    (hf : X.fn x = true ∨ X.env.scope.names.lookup x = some .local := by first | exact .inl rfl | exact .inr rfl | assumption) : YG X Y E (.Name x pos) (L2.gName i) (gdName i) := ⟨hy, xg_name hN hi hx hf⟩
theorem ygs_nil (hy : Y = sg X := by rfl) : YGs X Y E [] L2.gNil gdNil := ⟨hy, xgs_nil⟩
theorem ygs_cons {tg : TG} {tgs : TGs} {g : LTG} {gs : LTGs} (h : YG X Y E e tg g) (h' : YGs X Y E es tgs gs) (hs : (assignEach (e :: es) X.env).map (·.2) = assign e X.env :: (assignEach es X.env).map (·.2) := by rfl) : YGs X Y E (e :: es) (L2.gCons tg tgs) (gdCons g gs) := ⟨h.y, xgs_cons h.x h'.x hs⟩
theorem yg_tup {kk n : Nat} {tgs : TGs} {gs : LTGs} (hc : X.calm = true) (h : YGs X Y E es tgs gs) (hn : (assignEach es X.env).length = n := by rfl) (hst : (assignEach es X.env).findIdx? (·.1) = none := by rfl) : YG X Y E (.Tuple es kk pos) (gAnyT Y.K n tgs) (gdTup n gs) := by
  obtain ⟨hy, h⟩ := h
  subst hy
  exact ⟨rfl, xg_tup hc h hn hst⟩
theorem yg_sub {i : Expr} {ti : TE} {di : LTE} (hu : X.A.units + 1 < cLine) (ho : YE X Y E o to do_) (hi : YE X Y E i ti di) (ha : ∀ v, assign (.Subscript o i pos) X.env v = (do let ov ← holding [v] (eval o X.env); let iv ← holding [v, ov] (eval i X.env); standAt pos; holding [v, ov, iv] (setItem ov iv v); release [v, ov, iv] []) := by intro _; rfl) : YG X Y E (.Subscript o i pos) (L2.gSub to ti rSetA) (gdSub do_ di) := ⟨ho.y, xg_sub hu ho.x hi.x ha⟩
variable {st : Stmt} {sts : List Stmt} {ts us : TS} {d u : LTS}
theorem yss_nil (hy : Y = sg X := by rfl) : YSs X Y E [] tNext dNext := ⟨hy, xss_nil⟩
theorem yss_cons (h : YS X Y E st ts d) (h' : YSs X Y E sts us u) : YSs X Y E (st :: sts) (tSeq ts us) (dSeq d u) := ⟨h.y, xss_cons h.x h'.x⟩
theorem yss_one (h : YS X Y E st ts d) : YSs X Y E [st] ts d := ⟨h.y, xss_one h.x⟩
theorem ys_ret (h : YE X Y E e te de) : YS X Y E (.Return (some e) pos) (tRet te) (dRet de) := ⟨h.y, xs_ret h.x⟩
theorem ys_retN (hy : Y = sg X := by rfl) : YS X Y E (.Return none pos) tRetN dRetN := ⟨hy, xs_retN⟩
theorem ys_expr (h : YE X Y E e te de) (hs : swapsWith e none pos.line X.env = pure false := by rfl) : YS X Y E (.Expr e pos) (tDrop te) (dDrop de) := ⟨h.y, xs_expr h.x hs⟩
theorem ys_if {a b : List Stmt} (hc : YT X Y E c tt dt) (ha : YSs X Y E a ts d) (hb : YSs X Y E b us u) : YS X Y E (.If c a b pos) (tIfS tt ts us) (dIfS dt d u) := ⟨hc.y, xs_if hc.x ha.x hb.x⟩
theorem ys_pass (hy : Y = sg X := by rfl) : YS X Y E (.Pass pos) tNext dNext := ⟨hy, xs_pass⟩
theorem ys_break (hy : Y = sg X := by rfl) : YS X Y E (.Break pos) tBreak dBreak := ⟨hy, xs_break⟩
theorem ys_cont (hy : Y = sg X := by rfl) : YS X Y E (.Continue pos) tCont dCont := ⟨hy, xs_cont⟩
theorem ys_never (hy : Y = sg X := by rfl) : YS X Y E st tNever dNever := ⟨hy, xs_never⟩
theorem ys_asg {tg : Expr} {ttg : TG} {g : LTG} (h : YE X Y E e te de) (hg : YG X Y E tg ttg g) (hs : swapsWithSole [tg] e pos.line X.env = pure false := by rfl) (hw : swappedStores [tg] e X.env = pure none := by rfl)
    (h1 : (assignEach [tg] X.env).map (·.2) = [assign tg X.env] := by rfl) : YS X Y E (.Assign [tg] e pos) (tAsg te ttg) (dAsg de g) := ⟨h.y, xs_asg h.x hg.x hs hw h1⟩
theorem ys_set {i : Nat} {x : Str} {pos' : Pos} (hN : X.N.Nodup) (h : YE X Y E e te de) (hi : X.N[i]? = some x := by rfl) (hx : Loc X.env.scope x := by first | exact Or.inl rfl | exact Or.inr rfl) (hs : swapsWith e (some (.Name x pos')) pos.line X.env = pure false := by rfl)
    (hf : X.fn x = true ∨ X.env.scope.names.lookup x = some .local := by first | exact .inl rfl | exact .inr rfl | assumption) : YS X Y E (.Assign [.Name x pos'] e pos) (tAsg te (L2.gName i)) (dAsg de (gdName i)) := ⟨h.y, xs_set hN h.x hi hx hs hf⟩
theorem ys_par {i j : Nat} {x y : Str} {px py pt : Pos} {kt k2 pt2} (hc : X.calm = true) (hN : X.N.Nodup) (ha : YA X Y E [a, b] tA dA) (hw : swappedStores [.Tuple [.Name x px, .Name y py] kt pt] (.Tuple [a, b] k2 pt2) X.env = pure (some [x, y]) := by rfl) (hss : swapsWithSole [.Tuple [.Name x px, .Name y py] kt pt] (.Tuple [a, b] k2 pt2) pos.line X.env = pure false := by rfl) (hi : X.N[i]? = some x := by rfl) (hj : X.N[j]? = some y := by rfl) (hij : i ≠ j := by decide)
    (hx : X.env.scope.names.lookup x = some .local := by rfl) (hy : X.env.scope.names.lookup y = some .local := by rfl) : YS X Y E (.Assign [.Tuple [.Name x px, .Name y py] kt pt] (.Tuple [a, b] k2 pt2) pos) (tPar i j tA) (dPar i j dA) := ⟨ha.y, xs_par hc hN ha.x hw hss hi hj hij hx hy⟩
theorem ys_par3 {i j l : Nat} {x y z : Str} {px py pz pt : Pos} {kt k2 pt2} (hc : X.calm = true) (hN : X.N.Nodup) (ha : YA X Y E [a, b, c] tA dA) (hw : swappedStores [.Tuple [.Name x px, .Name y py, .Name z pz] kt pt] (.Tuple [a, b, c] k2 pt2) X.env = pure (some [x, y, z]) := by rfl)
    (hss : swapsWithSole [.Tuple [.Name x px, .Name y py, .Name z pz] kt pt] (.Tuple [a, b, c] k2 pt2) pos.line X.env = pure false := by rfl) (hi : X.N[i]? = some x := by rfl) (hj : X.N[j]? = some y := by rfl) (hl : X.N[l]? = some z := by rfl) (hij : i ≠ j := by decide) (hil : i ≠ l := by decide) (hjl : j ≠ l := by decide)
    (hx : X.env.scope.names.lookup x = some .local := by rfl) (hy : X.env.scope.names.lookup y = some .local := by rfl) (hz : X.env.scope.names.lookup z = some .local := by rfl) : YS X Y E (.Assign [.Tuple [.Name x px, .Name y py, .Name z pz] kt pt] (.Tuple [a, b, c] k2 pt2) pos) (tPar3 i j l tA) (dPar3 i j l dA) := ⟨ha.y, xs_par3 hc hN ha.x hw hss hi hj hl hij hil hjl hx hy hz⟩
/-! ### walks, loops, comprehensions -/
variable {tg iter : Expr}
theorem yi_seq (h : YE X Y E e te de) : YI X Y E tg e (iSeq Y.K te) (diSeq de) := by
  obtain ⟨hy, h⟩ := h
  subst hy
  exact ⟨rfl, xi_seq h⟩
theorem yi_r1 {mg : Str → Option Value} {p : Pos} (hm : mg "range" = none) (ha : YA X Y E [a] tA dA) (hmg : X.mg = mg := by rfl) (hg : Gl X "range" := by rfl) (hs : starEach [a] X.env = [(false, eval a X.env)] := by rfl) : YI X Y E tg (.Call (.Name "range" p) [a] [] pos) (iRng1 tA) (diR1 dA) := by
  subst hmg
  exact ⟨ha.y, xi_r1 hm ha.x hg hs⟩
theorem yi_r2 {mg : Str → Option Value} {p : Pos} (hm : mg "range" = none) (ha : YA X Y E [a, b] tA dA) (hmg : X.mg = mg := by rfl) (hg : Gl X "range" := by rfl) (hs : starEach [a, b] X.env = [(false, eval a X.env), (false, eval b X.env)] := by rfl) (hs2 : starEach [b] X.env = [(false, eval b X.env)] := by rfl) : YI X Y E tg (.Call (.Name "range" p) [a, b] [] pos) (iRng2 tA) (diR2 dA) := by
  subst hmg
  exact ⟨ha.y, xi_r2 hm ha.x hg hs hs2⟩
theorem yi_zip {mg : Str → Option Value} {p tpos : Pos} {elts : List Expr} {kk : Nat} (hm : mg "zip" = none) (ha : YA X Y E [a, b] tA dA) (hmg : X.mg = mg := by rfl) (hg : Gl X "zip" := by rfl) (hs : starEach [a, b] X.env = (false, eval a X.env) :: starEach [b] X.env := by rfl) (hpl : (backTo pos (starEach [b] X.env)).any (·.1) = false := by rfl) :
    YI X Y E (.Tuple elts kk tpos) (.Call (.Name "zip" p) [a, b] [] pos) (RZ.iZipA Y.K tA) (diZip dA) := by
  obtain ⟨hy, ha⟩ := ha
  subst hy hmg
  exact ⟨rfl, xi_zip hm ha hg hs hpl⟩
theorem ys_for {body : List Stmt} {wi : TI} {ti : LTI} {ttg : TG} {g : LTG} {tb : TS} {db : LTS} (hp : PassesOwn (model X.prog X.w) X.A X.env X.xe) (hc : X.calm = true) (hi : YI X Y E tg iter wi ti) (hg : YG X Y E tg ttg g) (hb : YSs X Y E body tb db) (hfs : ∀ x, foldedSetIterable iter X.env x = pure x := by intro _; rfl) :
    YS X Y E (.For tg iter body [] pos) (tFor wi ttg tb) (dFor ti g db) := ⟨hi.y, xs_for hp hc hi.x hg.x hb.x hfs⟩
theorem ys_while {body : List Stmt} {tb : TS} {db : LTS} (hp : PassesOwn (model X.prog X.w) X.A X.env X.xe) (hc : YT X Y E c tt dt) (hb : YSs X Y E body tb db) : YS X Y E (.While c body [] pos) (tWhile tt tb) (dWhile dt db) := ⟨hc.y, xs_while hp hc.x hb.x⟩
theorem yts_nil (hy : Y = sg X := by rfl) : YTs X Y E [] tYes dYes := ⟨hy, xts_nil⟩
theorem yts_one (h : YT X Y E c tt dt) : YTs X Y E [c] tt dt := ⟨h.y, xts_one h.x⟩
theorem ye_lc {elt : Expr} {ifs : List Expr} {scope : Scope} {own : List (Str × Nat)} {wi : TI} {ti : LTI} {ttg : TG} {g : LTG} (hc : X.calm = true) (hN : X.N.Nodup) (hi : YI X Y E tg iter wi ti) (ok : BlkOk X.N X.env.scope scope own) (ho : OwnG (own.map (·.2)) ttg)
    (hg : ∀ (s : Shared) (H : Hp) (C : Addr) (cl : List (Str × Addr)) (fp : List Addr), YG (X.blk s H scope (compEnvC scope cl C X.env) fp) Y E0 tg ttg g) (ht : ∀ (s : Shared) (H : Hp) (C : Addr) (cl : List (Str × Addr)) (fp : List Addr), YTs (X.blk s H scope (compEnvC scope cl C X.env) fp) Y E0 ifs tt dt)
    (he : ∀ (s : Shared) (H : Hp) (C : Addr) (cl : List (Str × Addr)) (fp : List Addr), YE (X.blk s H scope (compEnvC scope cl C X.env) fp) Y E0 elt te de) (hs : ∀ x, foldedSetIterable iter X.env x = pure x := by intro _; rfl) :
    YE X Y E (.ListComp elt [⟨tg, iter, ifs, 0⟩] scope pos) (tLc wi ttg tt te (own.map (·.2))) (dLc ti g dt de (own.map (·.2))) :=
  ⟨hi.y, xe_lc hc hN hi.x ok ho (fun s H C cl fp => (hg s H C cl fp).x) (fun s H C cl fp => (ht s H C cl fp).x) (fun s H C cl fp => (he s H C cl fp).x) hs⟩
theorem ys_setLc {i : Nat} {y : Str} {py spos : Pos} {elt : Expr} {ifs : List Expr} {scope : Scope} {own : List (Str × Nat)} {wi : TI} {ti : LTI} {ttg : TG} {g : LTG} (hc : X.calm = true) (hN : X.N.Nodup) (hi : YI X Y E tg iter wi ti) (ok : BlkOk X.N X.env.scope scope own) (ho : OwnG (own.map (·.2)) ttg)
    (hg : ∀ (s : Shared) (H : Hp) (C : Addr) (cl : List (Str × Addr)) (fp : List Addr), YG (X.blk s H scope (compEnvC scope cl C X.env) fp) Y E0 tg ttg g) (ht : ∀ (s : Shared) (H : Hp) (C : Addr) (cl : List (Str × Addr)) (fp : List Addr), YTs (X.blk s H scope (compEnvC scope cl C X.env) fp) Y E0 ifs tt dt)
    (he : ∀ (s : Shared) (H : Hp) (C : Addr) (cl : List (Str × Addr)) (fp : List Addr), YE (X.blk s H scope (compEnvC scope cl C X.env) fp) Y E0 elt te de) (hyi : X.N[i]? = some y := by rfl) (hyl : X.env.scope.names.lookup y = some .local := by rfl)
    (hsw : swapsWith (.ListComp elt [⟨tg, iter, ifs, 0⟩] scope pos) (some (.Name y py)) spos.line X.env = pure true := by exact sw_true rfl rfl rfl (by decide +kernel)) (hs : ∀ x, foldedSetIterable iter X.env x = pure x := by intro _; rfl) :
    YS X Y E (.Assign [.Name y py] (.ListComp elt [⟨tg, iter, ifs, 0⟩] scope pos) spos) (tAsg (tLc wi ttg tt te (own.map (·.2))) (L2.gName i)) (dAsg (dLc ti g dt de (own.map (·.2))) (gdName i)) :=
  ⟨hi.y, xs_setLc hc hN hi.x ok ho (fun s H C cl fp => (hg s H C cl fp).x) (fun s H C cl fp => (ht s H C cl fp).x) (fun s H C cl fp => (he s H C cl fp).x) hyi hyl hsw hs⟩
/-! ### calls -/
variable {P : Program} {w : World} {K : PySem.W.Frag} {mg : Str → Option Value} {base : Heap} {g : Bool} {C0 : CXT} {k : Nat} {x : Str} {ps : List Str} {S : DSp} {p : Pos} {kws : List Keyword} {tk : TA} {dk : LTA}
theorem ye_call (h : Df g P w K mg base C0 k x st ps S) (hgd : g = true → X.A.guards = some []) (hr : Room k X.A) (hx : Passes C0 X E) (ha : YA X Y E (e :: es) tA dA) (h1 : X.prog = P := by rfl) (h2 : X.w = w := by rfl) (h3 : X.K = K := by rfl) (h4 : X.mg = mg := by rfl) (h5 : X.base = base := by rfl) (hg : Gl X x := by rfl) (hdb : (x == ("__debug__" : Str)) = false := by decide)
    (he : starEach (e :: es) X.env = (false, eval e X.env) :: starEach es X.env := by rfl) (hpl : (backTo pos (starEach es X.env)).any (·.1) = false := by rfl) : YE X Y E (.Call (.Name x p) (e :: es) [] pos) (tCall (lift K S) [] E tA) (dCB S dA) := by
  subst h1 h2 h3 h4 h5
  exact ⟨ha.y, xe_call h hgd hr hx ha.x hg hdb he hpl⟩
theorem ye_call0 (h : Df g P w K mg base C0 k x st ps S) (hgd : g = true → X.A.guards = some []) (hr : Room k X.A) (hx : Passes C0 X E) (hy : Y = sg X := by rfl) (h1 : X.prog = P := by rfl) (h2 : X.w = w := by rfl) (h3 : X.K = K := by rfl) (h4 : X.mg = mg := by rfl) (h5 : X.base = base := by rfl) (hg : Gl X x := by rfl) (hdb : (x == ("__debug__" : Str)) = false := by decide) : YE X Y E (.Call (.Name x p) [] [] pos) (tCall (lift K S) [] E tNil) (dCB S dNil) := by
  subst h1 h2 h3 h4 h5
  exact ⟨hy, xe_call0 h hgd hr hx hg hdb⟩
theorem yk_nil (hy : Y = sg X := by rfl) : YKw X Y E [] tNil dNil := ⟨hy, xk_nil⟩
theorem yk_cons {nm : Option Str} {kpos : Pos} (h : YE X Y E e te de) (h' : YKw X Y E kws tA dA) : YKw X Y E (⟨nm, e, kpos⟩ :: kws) (tCons te tA) (dCons de dA) := ⟨h.y, xk_cons h.x h'.x⟩
variable {ks : List Str} {h : List Value → List Value → List Value} {hV : List V → List V → List V} {hD : List D → List D → List D}
theorem ye_callK0 (o : Ord h hV hD) (hf : Df g P w K mg base C0 k x st ps S) (hb : ∀ (kV doc pm : Value) (an : Option Addr) (cdv ct : Value) (us ws : List Value), (h us ws).length = ps.length →
      bindArgs (PySem.W.fnOf x x (defArgs st) (defBody st) (defScope st) .none kV doc pm an cdv ct) ⟨us, ks.zip ws⟩ = pure (ps.zip (h us ws))) (hgd : g = true → X.A.guards = some []) (hr : Room k X.A) (hx : Passes C0 X E) (hkw : YKw X Y E kws tA dA) (h1 : X.prog = P := by rfl) (h2 : X.w = w := by rfl) (h3 : X.K = K := by rfl) (h4 : X.mg = mg := by rfl) (h5 : X.base = base := by rfl)
    (hall : (backToKw pos (keywordEach kws X.env)).all (·.1.isSome) = true := by rfl) (hks : (backToKw pos (keywordEach kws X.env)).filterMap (·.1) = ks := by rfl) (hg : Gl X x := by rfl) (hdb : (x == ("__debug__" : Str)) = false := by decide)
    (hpl : ((backTo pos (starEach [] X.env)).any (·.1) || (backToKw pos (keywordEach kws X.env)).any (·.1.isNone)) = false := by rfl) : YE X Y E (.Call (.Name x p) [] kws pos) (tCallK (lift K S) hV E tNil tA) (dCallK S hD dNil dA) := by
  subst h1 h2 h3 h4 h5
  exact ⟨hkw.y, xe_callK0 o hf hb hgd hr hx hkw.x hall hks hg hdb hpl⟩
theorem ye_callK (o : Ord h hV hD) (hf : Df g P w K mg base C0 k x st ps S) (hb : ∀ (kV doc pm : Value) (an : Option Addr) (cdv ct : Value) (us ws : List Value), (h us ws).length = ps.length →
      bindArgs (PySem.W.fnOf x x (defArgs st) (defBody st) (defScope st) .none kV doc pm an cdv ct) ⟨us, ks.zip ws⟩ = pure (ps.zip (h us ws))) (hgd : g = true → X.A.guards = some []) (hr : Room k X.A) (hx : Passes C0 X E) (ha : YA X Y E (e :: es) tA dA) (hkw : YKw X Y E kws tk dk) (h1 : X.prog = P := by rfl) (h2 : X.w = w := by rfl) (h3 : X.K = K := by rfl) (h4 : X.mg = mg := by rfl) (h5 : X.base = base := by rfl)
    (hall : (backToKw pos (keywordEach kws X.env)).all (·.1.isSome) = true := by rfl) (hks : (backToKw pos (keywordEach kws X.env)).filterMap (·.1) = ks := by rfl) (hg : Gl X x := by rfl) (hdb : (x == ("__debug__" : Str)) = false := by decide)
    (he : starEach (e :: es) X.env = (false, eval e X.env) :: starEach es X.env := by rfl) (hpl : ((backTo pos (starEach (e :: es) X.env)).any (·.1) || (backToKw pos (keywordEach kws X.env)).any (·.1.isNone)) = false := by rfl) : YE X Y E (.Call (.Name x p) (e :: es) kws pos) (tCallK (lift K S) hV E tA tk) (dCallK S hD dA dk) := by
  subst h1 h2 h3 h4 h5
  exact ⟨ha.y, xe_callK o hf hb hgd hr hx ha.x hkw.x hall hks hg hdb he hpl⟩
end
/-- THE RULE for a def, by these -/
theorem Tx.dfy {g : Bool} {P : Program} {w : World} {K : PySem.W.Frag} {mg : Str → Option Value} {base : Heap} {k : Nat} {x : Str} {st : Stmt} {N ps : List Str} {S : DSp} (T : Tx K mg x st ps) (Sc : FnScope N ps (defScope st)) (len : ∀ ds ω x k, S ds ω x k → ds.length = ps.length)
    (by_ : ∀ (f : Addr) (cdv : Value) (A : Around) (out : List PySem.Env) (s : Shared) (H : Hp), (g = true → A.guards = some []) → Room k (A.deeper (envOfC x (defScope st) s.heap.objs.size f cdv)) →
      ∃ ts t, YSs (cxOf CX0 P w K mg base N x (defScope st) f cdv A out s H L2.E0).nox ⟨K, w⟩ E0 (defBody st) ts t ∧ ∀ ds ω (x : KX) (k : KV), S ds ω x k → t (LEnds.top X0 k) (startD N ds) ω) : Df g P w K mg base CX0 (k + 1) x st ps S :=
  T.df Sc len fun f cdv A out s H hG hr => let ⟨ts, t, h, q⟩ := by_ f cdv A out s H hG hr; ⟨ts, t, h.x, q⟩
end L3
/-! L3p: dicts walked and copied; str of an int; sorted(set([])). -/
namespace L3
open PySem L2 PySem.Spec PyProof.Rows
open PySem (PyData)
section
variable {X : Cx} {Y : Sg} {E : XK}
/-! ### a dict locked while an expression walks it -/
def dLockE (t : LTE) : LTE := fun ρ ω x k => ∃ p kvs, ω p = some (.dK kvs) ∧ ∀ u, t ρ (sup ω p (.dL u kvs)) x fun v ω' => ω' p = some (.dL u kvs) ∧ k v (sup ω' p (.dK kvs))
theorem lf_lockE {K : PySem.W.Frag} {te : TE} {t : LTE} (h : LfE K E te t) : LfE K E (tLockE te) (dLockE t) := fun F H σ ρ ω x k Q hd hr lx ⟨p, kvs, e, q⟩ w => by
  obtain ⟨fp, o, e2, ok⟩ := hd.cell _ _ e
  cases ok with
  | dK rk =>
    rename_i kws
    refine ⟨p, .dK kws, e2, trivial, fun od => ?_⟩
    refine h F _ σ ρ _ x _ _ (hd.put e (o := .frz od (.dK kws)) (.dL rk)) hr lx (q (.frz od (.dK kws))) fun v d F2 H2 ω2 ⟨e3, q3⟩ s2 hd2 r2 => ?_
    obtain ⟨_, o3, e4, ok3⟩ := hd2.cell _ _ e3
    cases ok3 with
    | dL rk2 => exact ⟨e4, w _ _ _ _ _ q3 s2 (hd2.put e3 (.dK rk2)) r2⟩
theorem xe_lock {e : Expr} {te : TE} {t : LTE} (h : XE X E e te t) : XE X E e (tLockE te) (dLockE t) := ⟨pe_lock h.pe, lf_lockE h.lf⟩
theorem ye_lock {e : Expr} {te : TE} {t : LTE} (h : YE X Y E e te t) : YE X Y E e (tLockE te) (dLockE t) := ⟨h.y, xe_lock h.x⟩
def diKeys (t : LTE) : LTI := fun ρ ω x k => t ρ ω x fun d ω1 => ∃ p u kvs, d = .ptr p ∧ ω1 p = some (.dL u kvs) ∧ k (kvs.map fun q => kD q.1) (fun ω => ω p = some (.dL u kvs)) ω1
theorem KvR.key_at {K : PySem.W.Frag} {F : Hp} : ∀ {kws : List (Key × V)} {kvs : List (Key × D)} {i : Nat} {k : Key} {v : V}, KvR K F kws kvs → kws[i]? = some (k, v) → ∃ d, kvs[i]? = some (k, d)
  | _, _, 0, _, _, .cons (b := b) h t, e => by
    cases e
    refine ⟨b.2, ?_⟩
    have h1 : _ = b.1 := h.1
    rw [List.getElem?_cons_zero]
    exact congrArg some (Prod.ext h1.symm rfl)
  | _, _, i + 1, _, _, .cons h t, e => by
    rw [List.getElem?_cons_succ] at e ⊢
    exact KvR.key_at t e
theorem walk_keys {K : PySem.W.Frag} {F : Hp} {p : Addr} {od : Obj} {kws : List (Key × V)} {kvs : List (Key × D)} (hr : KvR K F kws kvs) : Walk K F (Itk p od kws) (kvs.map fun q => kD q.1) (fun ω => ω p = some (.dL (.frz od (.dK kws)) kvs)) := by
  have hl := paired_len hr
  have at_ : ∀ {F' H : Hp} {ω : Store}, Hd K F' H ω → ω p = some (.dL (.frz od (.dK kws)) kvs) → H p = some (.frz od (.dK kws)) := fun {F' H ω} hd st => by
    obtain ⟨_, o, e, ok⟩ := hd.cell _ _ st
    cases ok with
    | dL _ => exact e
  refine ⟨fun i F' H ω s hd st hi => ?_, fun i v F' H H' ω s hd st y hi => ?_, fun F' H ω s hd st => ?_⟩
  · rw [List.length_map] at hi
    exact ⟨at_ hd st, by rw [hl]; exact hi⟩
  · obtain ⟨rfl, k, v2, e, rfl⟩ := y
    rw [List.length_map] at hi
    have e3 := KvR.key_at hr e
    obtain ⟨d, e4⟩ := e3
    exact ⟨F', kD k, same_refl _, hd, by rw [List.getElem?_map, e4]; rfl, kD_rp' k⟩
  · exact ⟨at_ hd st, by rw [List.length_map, hl]; exact Nat.le_refl _⟩
theorem xi_keys {tg l : Expr} {tl : TE} {dl : LTE} (h : XE X E l tl dl) : XI X E tg l (iKeys tl) (diKeys dl) := ⟨pi_keys h.pe, fun F H σ ρ ω x k R hd hr lx q w =>
  h.lf F H σ ρ ω x _ _ hd hr lx q fun v d F1 H1 ω1 ⟨p, u, kvs, e1, e2, q1⟩ s1 hd1 r1 => by
    subst e1
    obtain ⟨_, o, e3, ok⟩ := hd1.cell _ _ e2
    cases ok with
    | dL rk => exact ⟨p, _, r1.ptr_inv, .inl ⟨_, e3, w _ _ _ _ _ _ q1 s1 hd1 (walk_keys rk)⟩⟩⟩
theorem yi_keys {tg e : Expr} {te : TE} {de : LTE} (h : YE X Y E e te de) : YI X Y E tg e (iKeys te) (diKeys de) := ⟨h.y, xi_keys h.x⟩
/-! ### dict(d), dict(pairs) -/
def rDictD (K : PySem.W.Frag) : List V → Hp → VK → Prop := fun xs H Q => ∃ (a : Addr) (kvs : List (Key × V)), xs = [.ref a] ∧ Rd H a (.dK kvs) ∧ ∀ p, H p = none → Q (.ref p) (upd H p (.dK kvs))
def sDictD : SN := fun ds ω _ k => ∃ p kvs, ds = [.ptr p] ∧ DkOf ω p kvs ∧ ∀ q, ω q = none → k (.ptr q) (sup ω q (.dK kvs))
theorem cl_dictD : CL X E (.type "dict") (rDictD X.K) sDictD := ⟨call_dictD, fun F H ω us ds x k Q hd r _ ⟨p, kvs, e, h, q⟩ w => by
  subst e
  obtain ⟨u, rfl, ru⟩ := rpl_one r
  have fin : ∀ kws, KvR X.K F kws kvs → ∀ a, H a = none → Q (.ref a) (upd H a (.dK kws)) := fun kws rk a ha => w _ _ _ _ _ (q a (hd.fω ha)) (same_refl F) (hd.newC ha (.dK rk)) (.ptr a)
  rcases h with h | ⟨_, h⟩
  · obtain ⟨_, o, e2, ok⟩ := hd.cell _ _ h
    cases ok with
    | dK rk => exact ⟨p, _, by rw [ru.ptr_inv], .inl e2, fin _ rk⟩
  · obtain ⟨_, o, e2, ok⟩ := hd.cell _ _ h
    cases ok with
    | dL rk => exact ⟨p, _, by rw [ru.ptr_inv], .inr ⟨_, e2⟩, fin _ rk⟩⟩
def rDictP (K : PySem.W.Frag) : List V → Hp → VK → Prop := fun xs H Q => ∃ (a : Addr) (ps : List Addr) (kvs : List (Key × V)), xs = [.ref a] ∧ SqL K H a (ps.map V.ref) ∧ Paired (fun p kv => SqT K H p [kV kv.1, kv.2]) ps kvs ∧ ∀ p, H p = none → Q (.ref p) (upd H p (.dK (mergeK [] kvs)))
def sDictP : SN := fun ds ω _ k => ∃ d kvs, ds = [d] ∧ SqOf ω d (kvs.map fun q => .tup [kD q.1, q.2]) ∧ ∀ q, ω q = none → k (.ptr q) (sup ω q (.dK (mergeD kvs)))
theorem pairs_of {K : PySem.W.Frag} {F H : Hp} {ω : Store} (hd : Hd K F H ω) : ∀ {kvs : List (Key × D)} {vs : List V}, RpL K F vs (kvs.map fun q => .tup [kD q.1, q.2]) → ∃ (ps : List Addr) (kws : List (Key × V)), vs = ps.map V.ref ∧ Paired (fun p kv => SqT K H p [kV kv.1, kv.2]) ps kws ∧ KvR K F kws kvs
  | [], _, .nil => ⟨[], [], rfl, .nil, .nil⟩
  | (k, d) :: kvs, _, .cons h t => by
    obtain ⟨ps, kws, rfl, h1, h2⟩ := pairs_of hd t
    obtain ⟨a, us, rfl, e, rl⟩ := tup_at hd h
    obtain ⟨u, v, rfl, ru, rv⟩ := rpl_two rl
    obtain rfl := kD_K ru
    exact ⟨a :: ps, (k, v) :: kws, rfl, .cons e h1, .cons ⟨rfl, rv⟩ h2⟩
theorem cl_dictP (hc : X.calm = true) : CL X E (.type "dict") (rDictP X.K) sDictP := ⟨call_dictP hc, fun F H ω us ds x k Q hd r _ ⟨d, kvs, e, h, q⟩ w => by
  subst e
  obtain ⟨u, rfl, ru⟩ := rpl_one r
  obtain ⟨a, vs, rfl, e2, rl⟩ := h.at hd ru
  obtain ⟨ps, kws, rfl, h1, h2⟩ := pairs_of hd rl
  exact ⟨a, ps, kws, rfl, e2, h1, fun p hp => w _ _ _ _ _ (q p (hd.fω hp)) (same_refl F) (hd.newC hp (.dK (merge_rp h2 .nil))) (.ptr p)⟩⟩
theorem yc_dictD (hy : Y = sg X := by rfl) : YCl X Y E (.type "dict") (rDictD Y.K) sDictD := by subst hy; exact ⟨rfl, cl_dictD⟩
theorem yc_dictP (hc : X.calm = true) (hy : Y = sg X := by rfl) : YCl X Y E (.type "dict") (rDictP Y.K) sDictP := by subst hy; exact ⟨rfl, cl_dictP hc⟩
/-! ### str of an int -/
def rStrI : List V → Hp → VK → Prop := fun xs H Q => ∃ i : Int, xs = [.int i] ∧ i.natAbs.log2 < 1920 ∧ Q (.str (toString i)) H
def sStrI : SN := fun ds ω _ k => ∃ i : Int, ds = [.int i] ∧ i.natAbs.log2 < 1920 ∧ k (.str (toString i)) ω
theorem cl_strI : CL X E (.type "str") rStrI sStrI := ⟨call_str_int, fun F H ω us ds x k Q hd r _ ⟨i, e, h, q⟩ w => by
  subst e
  obtain ⟨u, rfl, ru⟩ := rpl_one r
  exact ⟨i, by rw [ru.int_inv], h, w.here q hd (.str _)⟩⟩
theorem yc_strI (hy : Y = sg X := by rfl) : YCl X Y E (.type "str") rStrI sStrI := ⟨hy, cl_strI⟩
/-! ### sorted(set([])) -/
def sSet0 : SN := fun ds ω _ k => ∃ d, ds = [d] ∧ SqOf ω d [] ∧ NewL [] ω k
variable {P : Program} {mg : Str → Option Value} {e : Expr} {te : TE} {de : LTE} {p q pos pos2 : Pos}
theorem xe_sset0 (hc : X.calm = true) (hu : X.A.units + 64 < cLine) (h : XE X E e te de) (hm1 : X.mg "sorted" = none) (hm2 : X.mg "set" = none) (hg1 : Gl X "sorted") (hg2 : Gl X "set")
    (he : starEach [e] X.env = (false, eval e X.env) :: starEach [] X.env) (he2 : starEach [.Call (.Name "set" q) [e] [] pos2] X.env = (false, eval (.Call (.Name "set" q) [e] [] pos2) X.env) :: starEach [] X.env) (hpl : (backTo pos (starEach [] X.env)).any (·.1) = false) (hpl2 : (backTo pos2 (starEach [] X.env)).any (·.1) = false) :
    XE X E (.Call (.Name "sorted" p) [.Call (.Name "set" q) [e] [] pos2] [] pos) (tCB (rSortedT X.K X.prog X.w) (tCons (tCB (rSetOfT X.K X.prog X.w) (tCons te tNil)) tNil)) (dCB sSet0 (dCons de dNil)) :=
  ⟨pe_callB (cr_sortedT hc) hg1 hm1 PyProof.Rows.boot_sorted (pa_cons (pe_callTy (cr_setOfT hc hu) hg2 hm2 PyProof.Rows.boot_set (pa_cons h.pe pa_nil he) (by decide) (by decide) he hpl2) pa_nil he2) (by decide) (by decide) he2 hpl, fun F H σ ρ ω x k Q hd hr lx q0 w => by
    refine h.lf F H σ ρ ω x _ _ hd hr lx q0 fun v d F1 H1 ω1 ⟨d2, e1, sq, nl⟩ s1 hd1 r1 => ?_
    cases e1
    obtain ⟨a, vs, rfl, e2, rl⟩ := sq.at hd1 r1
    cases rl
    refine ⟨a, [], rfl, e2, (by intro p hp; cases hp), (by show 0 < 64; omega), fun b L hb hL _ => ?_⟩
    obtain rfl : L = [] := by
      cases L with
      | nil => rfl
      | cons z L => cases hL z (List.mem_cons_self ..)
    refine ⟨b, [], 1, 0, rfl, upd_same, (by intro p hp; cases hp), Nat.le_refl _, (by intro p hp; cases hp), fun L' c pm _ _ _ hc2 => ?_⟩
    obtain rfl : L' = [] := pm.eq_nil
    have hc3 : H1 c = none := by
      by_cases z : c = b
      · rw [z]; exact hb
      · rw [upd_ne z] at hc2; exact hc2
    have hd2 : Hd X.K F1 (upd H1 b (SetTO X.prog X.w b [])) ω1 := hd1.ext (same_upd hb)
    exact newL_ok hd2 .nil nl (w.mono s1) c hc2⟩
theorem ye_sset0 (hc : X.calm = true) (hu : X.A.units + 64 < cLine) (hm1 : mg "sorted" = none) (hm2 : mg "set" = none) (h : YE X Y E e te de) (hmg : X.mg = mg := by rfl) (hP : X.prog = P := by rfl) (hg1 : Gl X "sorted" := by rfl) (hg2 : Gl X "set" := by rfl)
    (he : starEach [e] X.env = (false, eval e X.env) :: starEach [] X.env := by rfl) (he2 : starEach [.Call (.Name "set" q) [e] [] pos2] X.env = (false, eval (.Call (.Name "set" q) [e] [] pos2) X.env) :: starEach [] X.env := by rfl) (hpl : (backTo pos (starEach [] X.env)).any (·.1) = false := by rfl) (hpl2 : (backTo pos2 (starEach [] X.env)).any (·.1) = false := by rfl) :
    YE X Y E (.Call (.Name "sorted" p) [.Call (.Name "set" q) [e] [] pos2] [] pos) (tCB (rSortedT Y.K P Y.w) (tCons (tCB (rSetOfT Y.K P Y.w) (tCons te tNil)) tNil)) (dCB sSet0 (dCons de dNil)) := by
  obtain ⟨hy, h⟩ := h
  subst hy hmg hP
  exact ⟨rfl, xe_sset0 hc hu h hm1 hm2 hg1 hg2 he he2 hpl hpl2⟩
end
end L3
/-! Fm: formulas as a type; what is reckoned of them. -/
namespace L3
open PySem L2 PySem.Spec PyProof.Rows
open PySem (PyData)
inductive Fm where
  | lt (x : Str) | nt (f : Fm) | row (b : Bool) (fs : List Fm) | sm (f g : Fm) | qt (b : Bool) (x : Str) (f : Fm)
def wd (b : Bool) : Str := if b then "and" else "or"
def qd (b : Bool) : Str := if b then "each" else "some"
mutual
def Fm.enc : Fm → D
  | .lt x => .tup [.str "letter", .str x]
  | .nt f => .tup [.str "not", f.enc]
  | .row b fs => .tup [.str (wd b), .tup (Fm.encs fs)]
  | .sm f g => .tup [.str "same", f.enc, g.enc]
  | .qt b x f => .tup [.str (qd b), .str x, f.enc]
def Fm.encs : List Fm → List D
  | [] => []
  | f :: fs => f.enc :: Fm.encs fs
end
theorem encs_map : ∀ fs : List Fm, Fm.encs fs = fs.map Fm.enc
  | [] => rfl
  | f :: fs => by
    show f.enc :: Fm.encs fs = _
    rw [encs_map fs, List.map_cons]
def Fm.parts : Fm → List Fm
  | .lt _ => []
  | .nt f => [f]
  | .row _ fs => fs
  | .sm f g => [f, g]
  | .qt _ _ f => [f]
mutual
def Fm.nodes : Fm → Nat
  | .lt _ => 1
  | .nt f => f.nodes + 1
  | .row _ fs => Fm.nodess fs + 1
  | .sm f g => f.nodes + g.nodes + 1
  | .qt _ _ f => f.nodes + 1
def Fm.nodess : List Fm → Nat
  | [] => 0
  | f :: fs => f.nodes + Fm.nodess fs
end
mutual
def Fm.depth : Fm → Nat
  | .lt _ => 1
  | .nt f => f.depth + 1
  | .row _ fs => Fm.depths fs + 1
  | .sm f g => max f.depth g.depth + 1
  | .qt _ _ f => f.depth + 1
def Fm.depths : List Fm → Nat
  | [] => 0
  | f :: fs => max f.depth (Fm.depths fs)
end
mutual
def Fm.plain : Fm → Bool
  | .lt _ => true
  | .nt f => f.plain
  | .row _ fs => Fm.plains fs
  | .sm f g => f.plain && g.plain
  | .qt _ _ _ => false
def Fm.plains : List Fm → Bool
  | [] => true
  | f :: fs => f.plain && Fm.plains fs
end
mutual
/-- all names in a formula -/
def Fm.named (p : Str → Bool) : Fm → Bool
  | .lt x => p x
  | .nt f => f.named p
  | .row _ fs => Fm.nameds p fs
  | .sm f g => f.named p && g.named p
  | .qt _ x f => p x && f.named p
def Fm.nameds (p : Str → Bool) : List Fm → Bool
  | [] => true
  | f :: fs => f.named p && Fm.nameds p fs
end
mutual
def Fm.low : Fm → Bool → Fm
  | .lt x, b => if b then .lt x else .nt (.lt x)
  | .nt f, b => f.low (!b)
  | .row c fs, b => .row (if b then c else !c) (Fm.lows fs b)
  | .sm f g, b => if b then .row true [.row false [f.low false, g.low true], .row false [f.low true, g.low false]] else .row true [.row false [f.low true, g.low true], .row false [f.low false, g.low false]]
  | .qt c x f, b => .qt c x f
def Fm.lows : List Fm → Bool → List Fm
  | [], _ => []
  | f :: fs, b => f.low b :: Fm.lows fs b
end
theorem lows_map (b : Bool) : ∀ fs : List Fm, Fm.lows fs b = fs.map fun f => f.low b
  | [] => rfl
  | f :: fs => by
    show f.low b :: Fm.lows fs b = _
    rw [lows_map b fs, List.map_cons]
theorem nodes_pos : ∀ f : Fm, 1 ≤ f.nodes
  | .lt _ => Nat.le_refl _
  | .nt f => Nat.le_add_left _ _
  | .row _ _ => Nat.le_add_left _ _
  | .sm _ _ => Nat.le_add_left _ _
  | .qt _ _ _ => Nat.le_add_left _ _
theorem nodess_sum : ∀ fs : List Fm, Fm.nodess fs = (fs.map Fm.nodes).sum
  | [] => rfl
  | f :: fs => by
    show f.nodes + Fm.nodess fs = _
    rw [nodess_sum fs, List.map_cons, List.sum_cons]
theorem len_nodess : ∀ fs : List Fm, fs.length ≤ Fm.nodess fs
  | [] => Nat.le_refl _
  | f :: fs => by
    show fs.length + 1 ≤ f.nodes + Fm.nodess fs
    have := len_nodess fs
    have := nodes_pos f
    omega
theorem nodes_mem : ∀ {fs : List Fm} {f : Fm}, f ∈ fs → f.nodes ≤ Fm.nodess fs
  | g :: fs, f, h => by
    show f.nodes ≤ g.nodes + Fm.nodess fs
    rcases List.mem_cons.mp h with e | e
    · subst e
      omega
    · have := nodes_mem e
      omega
theorem depth_mem : ∀ {fs : List Fm} {f : Fm}, f ∈ fs → f.depth ≤ Fm.depths fs
  | g :: fs, f, h => by
    show f.depth ≤ max g.depth (Fm.depths fs)
    rcases List.mem_cons.mp h with e | e
    · subst e
      omega
    · have := depth_mem e
      omega
theorem depths_le : ∀ {fs : List Fm} {n : Nat}, (∀ f ∈ fs, f.depth ≤ n) → Fm.depths fs ≤ n
  | [], _, _ => Nat.zero_le _
  | g :: fs, n, h => by
    show max g.depth (Fm.depths fs) ≤ n
    have := h g (List.mem_cons_self ..)
    have := depths_le fun f hf => h f (List.mem_cons_of_mem _ hf)
    omega
theorem plain_mem : ∀ {fs : List Fm} {f : Fm}, Fm.plains fs = true → f ∈ fs → f.plain = true
  | g :: fs, f, hp, h => by
    have hp : (g.plain && Fm.plains fs) = true := hp
    rw [Bool.and_eq_true] at hp
    rcases List.mem_cons.mp h with e | e
    · subst e
      exact hp.1
    · exact plain_mem hp.2 e
theorem plains_of : ∀ {fs : List Fm}, (∀ f ∈ fs, f.plain = true) → Fm.plains fs = true
  | [], _ => rfl
  | g :: fs, h => by
    show (g.plain && Fm.plains fs) = true
    rw [h g (List.mem_cons_self ..), plains_of fun f hf => h f (List.mem_cons_of_mem _ hf)]
    rfl
theorem plains_all : ∀ fs : List Fm, Fm.plains fs = fs.all Fm.plain
  | [] => rfl
  | g :: fs => by
    show (g.plain && Fm.plains fs) = _
    rw [plains_all fs, List.all_cons]
theorem named_mem {p : Str → Bool} : ∀ {fs : List Fm} {f : Fm}, Fm.nameds p fs = true → f ∈ fs → f.named p = true
  | g :: fs, f, hp, h => by
    have hp : (g.named p && Fm.nameds p fs) = true := hp
    rw [Bool.and_eq_true] at hp
    rcases List.mem_cons.mp h with e | e
    · subst e
      exact hp.1
    · exact named_mem hp.2 e
theorem nameds_of {p : Str → Bool} : ∀ {fs : List Fm}, (∀ f ∈ fs, f.named p = true) → Fm.nameds p fs = true
  | [], _ => rfl
  | g :: fs, h => by
    show (g.named p && Fm.nameds p fs) = true
    rw [h g (List.mem_cons_self ..), nameds_of fun f hf => h f (List.mem_cons_of_mem _ hf)]
    rfl
/-- the parts of a formula are less -/
theorem part_depth {f g : Fm} (h : g ∈ f.parts) : g.depth < f.depth := by
  cases f with
  | lt x => cases h
  | nt f =>
    obtain rfl := List.mem_singleton.mp h
    exact Nat.lt_succ_self _
  | row b fs =>
    have := depth_mem (show g ∈ fs from h)
    show _ < Fm.depths fs + 1
    omega
  | sm a b =>
    show _ < max a.depth b.depth + 1
    rcases List.mem_cons.mp h with e | e
    · subst e
      omega
    · obtain rfl := List.mem_singleton.mp e
      omega
  | qt b x f =>
    obtain rfl := List.mem_singleton.mp h
    exact Nat.lt_succ_self _
theorem part_nodes {f g : Fm} (h : g ∈ f.parts) : g.nodes < f.nodes := by
  cases f with
  | lt x => cases h
  | nt f =>
    obtain rfl := List.mem_singleton.mp h
    exact Nat.lt_succ_self _
  | row b fs =>
    have := nodes_mem (show g ∈ fs from h)
    show _ < Fm.nodess fs + 1
    omega
  | sm a b =>
    show _ < a.nodes + b.nodes + 1
    rcases List.mem_cons.mp h with e | e
    · subst e
      omega
    · obtain rfl := List.mem_singleton.mp e
      omega
  | qt b x f =>
    obtain rfl := List.mem_singleton.mp h
    exact Nat.lt_succ_self _
theorem parts_len (f : Fm) : f.parts.length ≤ f.nodes := by
  cases f with
  | lt x => exact Nat.zero_le _
  | nt f => exact Nat.le_add_left _ _
  | row b fs =>
    have := len_nodess fs
    show fs.length ≤ Fm.nodess fs + 1
    omega
  | sm a b =>
    have := nodes_pos a
    show 2 ≤ a.nodes + b.nodes + 1
    omega
  | qt b x f => exact Nat.le_add_left _ _

/-! ### as plain data, and its text's length -/
mutual
def Fm.py : Fm → PyData
  | .lt x => .tuple [.str "letter", .str x]
  | .nt f => .tuple [.str "not", f.py]
  | .row b fs => .tuple [.str (wd b), .tuple (Fm.pys fs)]
  | .sm f g => .tuple [.str "same", f.py, g.py]
  | .qt b x f => .tuple [.str (qd b), .str x, f.py]
def Fm.pys : List Fm → List PyData
  | [] => []
  | f :: fs => f.py :: Fm.pys fs
end
mutual
theorem enc_py (ω : Store) : ∀ f : Fm, Py ω f.enc f.py
  | .lt x => .tup (.cons (.str _) (.cons (.str x) .nil))
  | .nt f => .tup (.cons (.str _) (.cons (enc_py ω f) .nil))
  | .row b fs => .tup (.cons (.str _) (.cons (.tup (encs_py ω fs)) .nil))
  | .sm f g => .tup (.cons (.str _) (.cons (enc_py ω f) (.cons (enc_py ω g) .nil)))
  | .qt b x f => .tup (.cons (.str _) (.cons (.str x) (.cons (enc_py ω f) .nil)))
theorem encs_py (ω : Store) : ∀ fs : List Fm, PyL ω (Fm.encs fs) (Fm.pys fs)
  | [] => .nil
  | f :: fs => .cons (enc_py ω f) (encs_py ω fs)
end
mutual
/-- a bound of the length of repr -/
def plen : PyData → Nat
  | .none => 4
  | .bool _ => 5
  | .int i => (toString i : Str).length
  | .str x => 10 * x.length + 2
  | .list xs => plens xs + 3
  | .tuple xs => plens xs + 3
  | .dict _ => 0
def plens : List PyData → Nat
  | [] => 0
  | x :: xs => plen x + 2 + plens xs
end
mutual
theorem shown_le : ∀ d : PyData, d.canLay0 = true → d.shown.length ≤ plen d
  | .none, _ => by simp only [PyData.shown, plen]; decide +kernel
  | .bool b, _ => by cases b <;> simp only [PyData.shown, plen] <;> decide +kernel
  | .int i, _ => by simp only [PyData.shown, plen]; exact Nat.le_refl _
  | .str x, h => by
    simp only [PyData.shown, plen]
    refine StrLaws.reprText_len x fun c hc => ?_
    have h : PyData.strOk x = true := by simpa [PyData.canLay0] using h
    have := Array.all_eq_true_iff_forall_mem.mp h c (by simpa using hc)
    have := of_decide_eq_true this
    omega
  | .list xs, h => by
    simp only [PyData.shown, plen]
    have h1 := listText_len_le (PyData.shownAll xs)
    have h2 := showns_le xs (by simpa [PyData.canLay0] using h)
    omega
  | .tuple xs, h => by
    simp only [PyData.shown, plen]
    have h1 := tupleText_len_le (PyData.shownAll xs)
    have h2 := showns_le xs (by simpa [PyData.canLay0] using h)
    omega
  | .dict _, h => by simp [PyData.canLay0] at h
theorem showns_le : ∀ ds : List PyData, PyData.canLayAll0 ds = true → ((PyData.shownAll ds).map (·.length)).sum + 2 * (PyData.shownAll ds).length ≤ plens ds
  | [], _ => by simp [PyData.shownAll, plens]
  | d :: ds, h => by
    have h : d.canLay0 = true ∧ PyData.canLayAll0 ds = true := by simpa [PyData.canLayAll0] using h
    have h1 := shown_le d h.1
    have h2 := showns_le ds h.2
    simp only [PyData.shownAll, plens, List.map_cons, List.sum_cons, List.length_cons]
    omega
end
/-- a name as formulas have it: short, of plain signs -/
def okName (x : Str) : Bool := decide (x.length ≤ 10) && PyData.strOk x
theorem words_ok : PyData.strOk "letter" = true ∧ PyData.strOk "not" = true ∧ PyData.strOk "and" = true ∧ PyData.strOk "or" = true ∧ PyData.strOk "same" = true ∧ PyData.strOk "each" = true ∧ PyData.strOk "some" = true := by decide +kernel
theorem wd_ok (b : Bool) : PyData.strOk (wd b) = true ∧ (wd b).length ≤ 10 := by cases b <;> decide +kernel
theorem qd_ok (b : Bool) : PyData.strOk (qd b) = true ∧ (qd b).length ≤ 10 := by cases b <;> decide +kernel
theorem okName_of {x : Str} (h : okName x = true) : x.length ≤ 10 ∧ PyData.strOk x = true := by
  unfold okName at h
  rw [Bool.and_eq_true] at h
  exact ⟨of_decide_eq_true h.1, h.2⟩
/-- what is wanted of data that is told by repr -/
structure Told (p : PyData) (n m : Nat) : Prop where
  lay : p.canLay0 = true
  show_ : p.showable = true
  nod : p.hasDict = false
  dep : p.depth ≤ n
  len : plen p ≤ m
structure Tolds (ps : List PyData) (n m : Nat) : Prop where
  lay : PyData.canLayAll0 ps = true
  show_ : PyData.showableAll ps = true
  nod : PyData.hasDictAll ps = false
  dep : PyData.depthAll ps ≤ n
  len : plens ps ≤ m
theorem Tolds.nil {n : Nat} : Tolds [] n 0 := ⟨by simp [PyData.canLayAll0], by simp [PyData.showableAll], by simp [PyData.hasDictAll], by simp [PyData.depthAll], by simp [plens]⟩
theorem Tolds.cons {p : PyData} {ps : List PyData} {n m k : Nat} (h : Told p n m) (h' : Tolds ps n k) : Tolds (p :: ps) n (m + 2 + k) :=
  ⟨by simp [PyData.canLayAll0, h.lay, h'.lay], by simp [PyData.showableAll, h.show_, h'.show_], by simp [PyData.hasDictAll, h.nod, h'.nod], by simp only [PyData.depthAll]; have := h.dep; have := h'.dep; omega, by simp only [plens]; have := h.len; have := h'.len; omega⟩
theorem Tolds.tup {ps : List PyData} {n m : Nat} (h : Tolds ps n m) : Told (.tuple ps) (n + 1) (m + 3) :=
  ⟨by simp [PyData.canLay0, h.lay], by simp [PyData.showable, h.show_], by simp [PyData.hasDict, h.nod], by simp only [PyData.depth]; have := h.dep; omega, by simp only [plen]; have := h.len; omega⟩
theorem Tolds.lst {ps : List PyData} {n m : Nat} (h : Tolds ps n m) : Told (.list ps) (n + 1) (m + 3) :=
  ⟨by simp [PyData.canLay0, h.lay], by simp [PyData.showable, h.show_], by simp [PyData.hasDict, h.nod], by simp only [PyData.depth]; have := h.dep; omega, by simp only [plen]; have := h.len; omega⟩
theorem Told.mono {p : PyData} {n m n' m' : Nat} (h : Told p n m) (h1 : n ≤ n') (h2 : m ≤ m') : Told p n' m' := ⟨h.lay, h.show_, h.nod, Nat.le_trans h.dep h1, Nat.le_trans h.len h2⟩
theorem Tolds.mono {p : List PyData} {n m n' m' : Nat} (h : Tolds p n m) (h1 : n ≤ n') (h2 : m ≤ m') : Tolds p n' m' := ⟨h.lay, h.show_, h.nod, Nat.le_trans h.dep h1, Nat.le_trans h.len h2⟩
theorem told_str {s : Str} {l : Nat} (h : PyData.strOk s = true) (hl : s.length ≤ l) : Told (.str s) 1 (10 * l + 2) :=
  ⟨by simp [PyData.canLay0, h], by simp [PyData.showable], by simp [PyData.hasDict], by simp [PyData.depth], by simp only [plen]; omega⟩
theorem told_bool {b : Bool} : Told (.bool b) 1 5 := ⟨by simp [PyData.canLay0], by simp [PyData.showable], by simp [PyData.hasDict], by simp [PyData.depth], by simp [plen]⟩
theorem told_none : Told .none 1 4 := ⟨by simp [PyData.canLay0], by simp [PyData.showable], by simp [PyData.hasDict], by simp [PyData.depth], by simp [plen]⟩
theorem vReprT {ω : Store} {x : KX} {k : KV} {a : D} {p : PyData} {n m : Nat} (h : Py ω a p) (t : Told p n m) (hn : n ≤ 190) (hm : m ≤ 16000000) (q : k (.str p.shown) ω) : sRepr [a] ω x k :=
  vRepr h t.show_ t.nod (Nat.le_trans t.dep hn) (Nat.le_trans (shown_le p t.lay) (Nat.le_trans t.len (Nat.le_trans hm (by decide)))) q
mutual
theorem told_fm : ∀ f : Fm, f.named okName = true → Told f.py (2 * f.depth + 1) (310 * f.nodes - 2)
  | .lt x, h => by
    obtain ⟨h1, h2⟩ := okName_of (show okName x = true from h)
    exact (Tolds.tup (.cons (told_str (l := 10) words_ok.1 (by decide +kernel)) (.cons (told_str h2 h1) .nil))).mono (by show 2 ≤ 3; omega) (by show _ ≤ 308; omega)
  | .nt f, h => by
    have ih := told_fm f h
    have := nodes_pos f
    have t := Tolds.tup (.cons ((told_str (l := 10) words_ok.2.1 (by decide +kernel)).mono (n' := 2 * f.depth + 1) (by omega) (Nat.le_refl _)) (.cons ih .nil))
    exact t.mono (by show _ ≤ 2 * (f.depth + 1) + 1; omega) (by show _ ≤ 310 * (f.nodes + 1) - 2; omega)
  | .row b fs, h => by
    have ih := tolds_fm fs h
    have t := Tolds.tup (.cons ((told_str (wd_ok b).1 (wd_ok b).2).mono (n' := 2 * Fm.depths fs + 2) (by omega) (Nat.le_refl _)) (.cons (ih.tup.mono (by omega) (Nat.le_refl _)) .nil))
    exact t.mono (by show _ ≤ 2 * (Fm.depths fs + 1) + 1; omega) (by show _ ≤ 310 * (Fm.nodess fs + 1) - 2; omega)
  | .sm f g, h => by
    have h : f.named okName = true ∧ g.named okName = true := by rw [← Bool.and_eq_true]; exact h
    have i1 := told_fm f h.1
    have i2 := told_fm g h.2
    have := nodes_pos f
    have := nodes_pos g
    have t := Tolds.tup (.cons ((told_str (l := 10) words_ok.2.2.2.2.1 (by decide +kernel)).mono (n' := 2 * max f.depth g.depth + 1) (by omega) (Nat.le_refl _)) (.cons (i1.mono (by omega) (Nat.le_refl _)) (.cons (i2.mono (by omega) (Nat.le_refl _)) .nil)))
    exact t.mono (by show _ ≤ 2 * (max f.depth g.depth + 1) + 1; omega) (by show _ ≤ 310 * (f.nodes + g.nodes + 1) - 2; omega)
  | .qt b x f, h => by
    have h : okName x = true ∧ f.named okName = true := by rw [← Bool.and_eq_true]; exact h
    obtain ⟨h1, h2⟩ := okName_of h.1
    have ih := told_fm f h.2
    have := nodes_pos f
    have t := Tolds.tup (.cons ((told_str (qd_ok b).1 (qd_ok b).2).mono (n' := 2 * f.depth + 1) (by omega) (Nat.le_refl _)) (.cons ((told_str h2 h1).mono (by omega) (Nat.le_refl _)) (.cons ih .nil)))
    exact t.mono (by show _ ≤ 2 * (f.depth + 1) + 1; omega) (by show _ ≤ 310 * (f.nodes + 1) - 2; omega)
theorem tolds_fm : ∀ fs : List Fm, Fm.nameds okName fs = true → Tolds (Fm.pys fs) (2 * Fm.depths fs + 1) (310 * Fm.nodess fs)
  | [], _ => (Tolds.nil (n := 1)).mono (by show 1 ≤ 2 * 0 + 1; omega) (Nat.le_refl _)
  | f :: fs, h => by
    have h : f.named okName = true ∧ Fm.nameds okName fs = true := by rw [← Bool.and_eq_true]; exact h
    have := nodes_pos f
    exact (Tolds.cons ((told_fm f h.1).mono (n' := 2 * max f.depth (Fm.depths fs) + 1) (by omega) (Nat.le_refl _)) ((tolds_fm fs h.2).mono (by omega) (Nat.le_refl _))).mono (Nat.le_refl _) (by show _ ≤ 310 * (f.nodes + Fm.nodess fs); omega)
end
end L3
/-! L3l: more steps. -/
namespace L3
open PySem L2 PySem.Spec PyProof.Rows
open PySem (PyData)
section
variable {X : Cx} {Y : Sg} {ρ : Rho} {ω : Store} {x : KX} {k : KV} {L : LEnds} {t : LTE} {a : D} {i : Nat}
/-- a fresh list, empty, given a name: it stays in the store -/
theorem gAsgNew (h : ∀ p, ω p = none → L.nx (ρ.set i (some (.ptr p))) (sup ω p (.lst []))) : dAsg (dLst dNil) (gdName i) L ρ ω := ⟨Nat.zero_le _, .inr fun p hp => h p hp⟩
theorem vAppend {p : Addr} {es : List D} {d : D} (h : ω p = some (.lst es)) (hz : es.length < 1000000) (q : k .non (sup ω p (.lst (es ++ [d])))) : sAppend (.ptr p) [d] ω x k := ⟨p, es, d, rfl, rfl, h, small_lt hz, q⟩
theorem vSq {p : Addr} {es : List D} (h : ω p = some (.lst es)) : ∃ ds, SqOf ω (.ptr p) ds := ⟨es, .ce h⟩
theorem gAnd1 {p q : Prop} (h1 : p) (h2 : q) : p ∧ q := ⟨h1, h2⟩
def maxs {α : Type} (f : α → Nat) : List α → Nat
  | [] => 0
  | a :: l => max (f a) (maxs f l)
def sums {α : Type} (f : α → Nat) : List α → Nat
  | [] => 0
  | a :: l => f a + sums f l
theorem maxs_mem {α : Type} {f : α → Nat} : ∀ {l : List α} {a : α}, a ∈ l → f a ≤ maxs f l
  | b :: l, a, h => by
    show f a ≤ max (f b) (maxs f l)
    rcases List.mem_cons.mp h with e | e
    · subst e
      omega
    · have := maxs_mem (f := f) e
      omega
theorem maxs_at {α : Type} {f : α → Nat} : ∀ {l : List α}, maxs f l = 0 ∨ ∃ a ∈ l, maxs f l = f a
  | [] => .inl rfl
  | b :: l => by
    show max (f b) (maxs f l) = 0 ∨ _
    by_cases h : maxs f l ≤ f b
    · exact .inr ⟨b, List.mem_cons_self .., by show max (f b) (maxs f l) = f b; omega⟩
    · rcases maxs_at (f := f) (l := l) with e | ⟨a, ha, e⟩
      · exact .inl (by omega)
      · exact .inr ⟨a, List.mem_cons_of_mem _ ha, by show max (f b) (maxs f l) = f a; omega⟩
theorem sum_nat {α : Type} (f : α → Nat) : ∀ l : List α, (l.map fun a => (f a : Int)).sum = (sums f l : Nat)
  | [] => rfl
  | a :: l => by
    rw [List.map_cons, List.sum_cons, sum_nat f l]
    show _ = ((f a + sums f l : Nat) : Int)
    omega
theorem vSumN {α : Type} {f : α → Nat} {l : List α} (q : k (.int (sums f l : Nat)) ω) : sSum [.lst (l.map fun a => .int (f a : Nat))] ω x k := by
  have e : (l.map fun a => D.int (f a : Nat)) = (l.map fun a => (f a : Int)).map D.int := by rw [List.map_map]; rfl
  rw [e]
  refine vSumF ?_
  rw [sum_nat]
  exact q
theorem vMaxN {α : Type} {f : α → Nat} {l : List α} (q : k (.int (maxs f l : Nat)) ω) : sMax1 [.lst (.int 0 :: l.map fun a => .int (f a : Nat))] ω x k := by
  have e : (D.int 0 :: l.map fun a => D.int (f a : Nat)) = ((0 : Int) :: l.map fun a => (f a : Int)).map D.int := by rw [List.map_cons, List.map_map]; rfl
  rw [e]
  refine vMax1 (m := (maxs f l : Nat)) ?_ ?_ q
  · rcases maxs_at (f := f) (l := l) with h | ⟨a, ha, h⟩
    · rw [h]
      exact List.mem_cons_self ..
    · rw [h]
      exact List.mem_cons_of_mem _ (List.mem_map.mpr ⟨a, ha, rfl⟩)
  · intro y hy
    rcases List.mem_cons.mp hy with h | h
    · omega
    · obtain ⟨a, ha, rfl⟩ := List.mem_map.mp h
      have := maxs_mem (f := f) ha
      omega
/-- the same, not empty, without a nought ahead -/
theorem vMaxM {α : Type} {f : α → Nat} {l : List α} (h : l ≠ []) (q : k (.int (maxs f l : Nat)) ω) : sMax1 [.lst (l.map fun a => .int (f a : Nat))] ω x k := by
  have e : (l.map fun a => D.int (f a : Nat)) = (l.map fun a => (f a : Int)).map D.int := by rw [List.map_map]; rfl
  rw [e]
  refine vMax1 (m := (maxs f l : Nat)) ?_ ?_ q
  · rcases maxs_at (f := f) (l := l) with h0 | ⟨a, ha, h⟩
    · cases l with
      | nil => exact absurd rfl h
      | cons b l =>
        have := maxs_mem (f := f) (List.mem_cons_self (a := b) (l := l))
        exact List.mem_map.mpr ⟨b, List.mem_cons_self .., by omega⟩
    · rw [h]
      exact List.mem_map.mpr ⟨a, ha, rfl⟩
  · intro y hy
    obtain ⟨a, ha, rfl⟩ := List.mem_map.mp hy
    have := maxs_mem (f := f) ha
    omega
theorem gdTupL {ds : List D} {n : Nat} {gs : LTGs} {k : Rho → Store → Prop} (hn : ds.length = n) (h : gs ds ρ ω x k) : gdTup n gs (.lst ds) ρ ω x k := ⟨ds, .inr (.fr ds), hn, h⟩
theorem gdTupT {ds : List D} {n : Nat} {gs : LTGs} {k : Rho → Store → Prop} (hn : ds.length = n) (h : gs ds ρ ω x k) : gdTup n gs (.tup ds) ρ ω x k := ⟨ds, .inl rfl, hn, h⟩
theorem gdNilI {k : Rho → Store → Prop} (h : k ρ ω) : gdNil [] ρ ω x k := ⟨rfl, h⟩
theorem gdConsI {g : LTG} {gs : LTGs} {d : D} {ds : List D} {k : Rho → Store → Prop} (h : g d ρ ω x fun ρ2 ω2 => gs ds ρ2 ω2 x k) : gdCons g gs (d :: ds) ρ ω x k := ⟨d, ds, rfl, h⟩
theorem sizes_row (f : Fm) : True := trivial
end
theorem lows_nodes (b : Bool) : ∀ fs : List Fm, Fm.nodess (Fm.lows fs b) = sums (fun f => (f.low b).nodes) fs
  | [] => rfl
  | f :: fs => by
    show (f.low b).nodes + Fm.nodess (Fm.lows fs b) = _
    rw [lows_nodes b fs]
    rfl
theorem lows_depth (b : Bool) : ∀ fs : List Fm, Fm.depths (Fm.lows fs b) = maxs (fun f => (f.low b).depth) fs
  | [] => rfl
  | f :: fs => by
    show max (f.low b).depth (Fm.depths (Fm.lows fs b)) = _
    rw [lows_depth b fs]
    rfl
theorem depth_pos : ∀ f : Fm, 1 ≤ f.depth
  | .lt _ => Nat.le_refl _
  | .nt f => Nat.le_add_left _ _
  | .row _ _ => Nat.le_add_left _ _
  | .sm _ _ => Nat.le_add_left _ _
  | .qt _ _ _ => Nat.le_add_left _ _
theorem any_plain (fs : List Fm) : ((fs.map fun g => !g.plain).any id) = !Fm.plains fs := by
  rw [plains_all, List.not_all_eq_any_not, List.any_map]
  rfl
end L3
namespace L3
theorem part_plain {f g : Fm} (hp : f.plain = true) (h : g ∈ f.parts) : g.plain = true := by
  cases f with
  | lt x => cases h
  | nt f =>
    obtain rfl := List.mem_singleton.mp h
    exact hp
  | row b fs => exact plain_mem hp h
  | sm a b =>
    have hp : a.plain = true ∧ b.plain = true := by rw [← Bool.and_eq_true]; exact hp
    rcases List.mem_cons.mp h with e | e
    · subst e
      exact hp.1
    · obtain rfl := List.mem_singleton.mp e
      exact hp.2
  | qt b x f => cases hp
end L3
namespace L3
theorem max_nat (a b : Nat) : max (a : Int) (b : Int) = ((max a b : Nat) : Int) := by omega
end L3
namespace L3
open PySem L2 PySem.Spec PyProof.Rows
open PySem (PyData)
section
variable {ρ : Rho} {ω : Store} {x : KX} {k : KV}
theorem gRtU {e : D} (h : RtK k e ω) : (LEnds.top x k).rt e ω := h
theorem gNxU (h : RtK k .non ω) : (LEnds.top x k).nx ρ ω := h
theorem RtK.dr {d : D} {ω' : Store} (h : k d ω') (w : ∀ a c, ω' a = some c → ω a = some c) : RtK k d ω := ⟨d, ω', Cv.drop w, h⟩
theorem RtK.d1 {d : D} {p : Addr} {c : Cell} (hp : ω p = none) (h : k d ω) : RtK k d (sup ω p c) := .dr h fun a e he => by
  have : a ≠ p := fun z => by rw [z, hp] at he; cases he
  rw [sup_ne this]
  exact he
theorem RtK.fz {p : Addr} {ds : List D} (hp : ω p = none) (h : k (.lst ds) ω) : RtK k (.ptr p) (sup ω p (.lst ds)) := ⟨.lst ds, _, Cv.freeze sup_same, by rw [del_sup hp]; exact h⟩
end
end L3
namespace L3
open PySem L2 PySem.Spec PyProof.Rows
open PySem (PyData)
section
variable {ρ : Rho} {ω : Store} {x : KX} {k : KV} {L : LEnds}
/-- a loop over zip(tuple, tuple) of written ones -/
def ZpK (g : LTG) (tb : LTS) (L : LEnds) (ρ : Rho) : List D → Store → Prop := fun as ω => ∃ ds es, as = [.tup ds, .tup es] ∧ forL g tb L (List.zipWith (fun d e => .tup [d, e]) ds es) ρ ω
theorem gForZ {g : LTG} {tb : LTS} {ta : LTA} (h : ∀ k0 : List D → Store → Prop, (∀ as ω, ZpK g tb L ρ as ω → k0 as ω) → ta ρ ω L.xc k0) : dFor (diZip ta) g tb L ρ ω := by
  refine h _ fun as ω1 ⟨ds, es, e, q⟩ => ⟨_, _, ds, es, e, .inr ⟨rfl, rfl, fun i ρ ω => forL g tb L ((List.zipWith (fun d e => D.tup [d, e]) ds es).drop i) ρ ω, q, fun _ _ _ _ => trivial, fun i d ρ ω hd q => ?_, fun ρ ω q => ?_⟩⟩
  · have hl := (List.getElem?_eq_some_iff.mp hd).1
    have q : forL g tb L ((List.zipWith (fun d e => D.tup [d, e]) ds es).drop i) ρ ω := q
    rw [List.drop_eq_getElem_cons hl, (List.getElem?_eq_some_iff.mp hd).2] at q
    exact q
  · have q : forL g tb L ((List.zipWith (fun d e => D.tup [d, e]) ds es).drop _) ρ ω := q
    rw [List.drop_length] at q
    exact q
theorem gZp {g : LTG} {tb : LTS} {ds es : List D} (h : forL g tb L (List.zipWith (fun d e => .tup [d, e]) ds es) ρ ω) : ZpK g tb L ρ [.tup ds, .tup es] ω := ⟨ds, es, rfl, h⟩
end
end L3
namespace L3
open PySem L2 PySem.Spec PyProof.Rows
theorem log_small {m : Int} (h : m.natAbs ≤ 1000000) : m.natAbs.log2 < 9000 := by
  by_cases h0 : m.natAbs = 0
  · rw [h0]; decide +kernel
  · exact (Nat.log2_lt h0).mpr (Nat.lt_of_le_of_lt h (Nat.lt_of_lt_of_le (show 1000000 < 2 ^ 20 by decide) (Nat.pow_le_pow_right (by omega) (by omega))))
theorem atI_in {α : Type} (es : List α) {r : Int} (h1 : 0 ≤ r) (h : r.toNat < es.length) : atI es r = some es[r.toNat] := by
  have e : ixN es.length r = some r.toNat := by
    unfold ixN
    rw [if_pos h1, if_pos (by omega)]
  unfold atI
  rw [e]
  exact List.getElem?_eq_getElem h
end L3
namespace L3
section
variable {ρ : Rho} {ω : Store} {x : KX} {tt tu : LTT} {kb : Bool → Store → Prop}
theorem gOrP {b1 b2 : Bool} (h1 : ∀ kb : Bool → Store → Prop, kb b1 ω → tt ρ ω x kb) (h2 : ∀ kb : Bool → Store → Prop, kb b2 ω → tu ρ ω x kb) (h : kb (b1 || b2) ω) : dOr tt tu ρ ω x kb := gOr (h1 _ (gI2 (fun e => by subst e; exact h) fun e => by subst e; exact h2 _ h))
theorem gAndP {b1 b2 : Bool} (h1 : ∀ kb : Bool → Store → Prop, kb b1 ω → tt ρ ω x kb) (h2 : ∀ kb : Bool → Store → Prop, kb b2 ω → tu ρ ω x kb) (h : kb (b1 && b2) ω) : dAnd tt tu ρ ω x kb := gAnd (h1 _ (gI2 (fun e => by subst e; exact h2 _ h) fun e => by subst e; exact h))
/-- the second is asked only where the first says so -/
theorem gAndC {b1 b2 : Bool} (h1 : ∀ kb : Bool → Store → Prop, kb b1 ω → tt ρ ω x kb) (h2 : b1 = true → ∀ kb : Bool → Store → Prop, kb b2 ω → tu ρ ω x kb) (h : kb (b1 && b2) ω) : dAnd tt tu ρ ω x kb := gAnd (h1 _ (gI2 (fun e => by subst e; exact h2 rfl _ h) fun e => by subst e; exact h))
theorem gOrC {b1 b2 : Bool} (h1 : ∀ kb : Bool → Store → Prop, kb b1 ω → tt ρ ω x kb) (h2 : b1 = false → ∀ kb : Bool → Store → Prop, kb b2 ω → tu ρ ω x kb) (h : kb (b1 || b2) ω) : dOr tt tu ρ ω x kb := gOr (h1 _ (gI2 (fun e => by subst e; exact h) fun e => by subst e; exact h2 rfl _ h))
end
end L3
namespace L3
open PySem L2 PySem.Spec PyProof.Rows
open PySem (PyData)
section
variable {ρ : Rho} {ω : Store} {x : KX} {k : KV} {L : LEnds} {t : LTE}
theorem gPar3 {i j l : Nat} {t : LTA} (h : t ρ ω L.xc fun ds ω1 => ∃ a b c, ds = [a, b, c] ∧ L.nx (((ρ.set i (some a)).set j (some b)).set l (some c)) ω1) : dPar3 i j l t L ρ ω := h
theorem gPar32 {i j l : Nat} {a b c : D} {ρ : Rho} {n : Rho → Store → Prop} (h : n (((ρ.set i (some a)).set j (some b)).set l (some c)) ω) : ∃ a' b' c', [a, b, c] = [a', b', c'] ∧ n (((ρ.set i (some a')).set j (some b')).set l (some c')) ω := ⟨a, b, c, rfl, h⟩
def RvK (k : KV) : KV := fun d ω => ∃ ds, SqOf ω d ds ∧ NewL ds.reverse ω k
theorem gRev (h : t ρ ω x (RvK k)) : dRev t ρ ω x k := h
theorem gRvF {ds : List D} (h : k (.lst ds.reverse) ω) : RvK k (.lst ds) ω := ⟨ds, .fr ds, .inl h⟩
theorem cut_take (ds : List D) {r : Int} (h : 0 ≤ r) : cutD ds none (some r) = ds.take r.toNat := by
  unfold cutD
  have e : r = ((r.toNat : Nat) : Int) := (Int.toNat_of_nonneg h).symm
  rw [e, HT.sIx_nat, HT.sIx_none, List.drop_zero, Nat.sub_zero, Int.toNat_natCast]
  by_cases z : r.toNat ≤ ds.length
  · rw [Nat.min_eq_left z]
  · rw [Nat.min_eq_right (by omega), List.take_length, List.take_of_length_le (by omega)]
/-- a comprehension whose test never says yes -/
theorem lc_noneI {α : Type} {ti : LTI} {g : LTG} {tt : LTT} {te : LTE} {vs : List Nat} (l : List α) (e : α → D) (hi : ∀ k0 : KI, (∀ stab : Store → Prop, stab ω → (∀ p ds, ω p = none → stab (sup ω p (.lst ds))) → k0 (l.map e) stab ω) → ti ρ ω x k0)
    (hg : ∀ a ∈ l, ∀ (ω' : Store) (k1 : Rho → Bool → Store → Prop), (∀ ρ2, k1 ρ2 false ω') → g (e a) (wipeD ρ vs) ω' X0 fun ρ2 ω2 => tt ρ2 ω2 X0 (k1 ρ2)) (q : k (.lst []) ω) : dLc ti g tt te vs ρ ω x k := by
  refine hi _ fun stab st st2 p hp => ?_
  refine ⟨fun i ω' => ω' = sup ω p (.lst []), rfl, fun i ω' e => e ▸ st2 p _ hp, fun i d ω' hd e => ?_, fun ω' e => ?_⟩
  · subst e
    rw [List.getElem?_map] at hd
    cases ha : l[i]? with
    | none =>
      rw [ha] at hd
      cases hd
    | some a =>
      rw [ha] at hd
      cases hd
      refine hg a (List.mem_of_getElem? ha) _ (fun ρ2 b ω3 => if b = true then te ρ2 ω3 X0 fun e ω4 => ∃ acc, ω4 p = some (.lst acc) ∧ acc.length < sizeLine ∧ sup ω4 p (.lst (acc ++ [e])) = sup ω p (.lst []) else ω3 = sup ω p (.lst [])) fun ρ2 => ?_
      exact (show sup ω p (.lst []) = sup ω p (.lst []) from rfl)
  · subst e
    refine .inr ⟨_, sup_same, ?_⟩
    rw [del_sup hp]
    exact q
theorem lc_none {α : Type} {g : LTG} {tt : LTT} {te : LTE} {vs : List Nat} (l : List α) (e : α → D) (hi : ∀ k0 : KV, (∀ d, (d = .lst (l.map e) ∨ d = .sq (l.map e) ∨ d = .tup (l.map e)) → k0 d ω) → t ρ ω x k0)
    (hg : ∀ a ∈ l, ∀ (ω' : Store) (k1 : Rho → Bool → Store → Prop), (∀ ρ2, k1 ρ2 false ω') → g (e a) (wipeD ρ vs) ω' X0 fun ρ2 ω2 => tt ρ2 ω2 X0 (k1 ρ2)) (q : k (.lst []) ω) : dLc (diSeq t) g tt te vs ρ ω x k :=
  lc_noneI l e (fun k0 h => hi _ fun d hd => iter_fr h hd) hg q
end
end L3
/-! L3m: the laws' bag. -/
namespace L3
open PySem L2 PySem.Spec PyProof.Rows
open PySem (PyData)
section
variable {X : Cx} {Y : Sg} {ρ : Rho} {ω ω' ω2 : Store} {x : KX} {k : KV} {p g : Addr}
def bagD (g : Addr) (s t : Int) : List (Key × D) := [(.inr "great", .ptr g), (.inr "seed", .int s), (.inr "turn", .int t)]
theorem kgs : ((.inr "great" : Key) = .inr "seed") = False := eq_false (by decide +kernel)
theorem kgt : ((.inr "great" : Key) = .inr "turn") = False := eq_false (by decide +kernel)
theorem kst : ((.inr "seed" : Key) = .inr "turn") = False := eq_false (by decide +kernel)
theorem kts : ((.inr "turn" : Key) = .inr "seed") = False := eq_false (by decide +kernel)
theorem ktg : ((.inr "turn" : Key) = .inr "great") = False := eq_false (by decide +kernel)
theorem ksg : ((.inr "seed" : Key) = .inr "great") = False := eq_false (by decide +kernel)
theorem bag_great (g : Addr) (s t : Int) : valD (bagD g s t) (.inr "great") = some (.ptr g) := by
  simp only [valD, bagD, List.find?, decide_true, Option.map_some]
theorem bag_seed (g : Addr) (s t : Int) : valD (bagD g s t) (.inr "seed") = some (.int s) := by
  simp only [valD, bagD, List.find?, kgs, decide_true, decide_false, Option.map_some]
theorem bag_turn (g : Addr) (s t : Int) : valD (bagD g s t) (.inr "turn") = some (.int t) := by
  simp only [valD, bagD, List.find?, kgt, kst, decide_true, decide_false, Option.map_some]
theorem put_seed (g : Addr) (s t s' : Int) : putD (bagD g s t) (.inr "seed") (.int s') = bagD g s' t := by
  simp only [putD, bagD, List.any, List.map, kgs, kts, decide_true, decide_false, Bool.or_true, Bool.true_or, if_true, if_false]
theorem put_turn (g : Addr) (s t s' : Int) : putD (bagD g s t) (.inr "turn") (.int s') = bagD g s s' := by
  simp only [putD, bagD, List.any, List.map, kgt, kst, decide_true, decide_false, Bool.or_true, Bool.true_or, Bool.or_false, if_true, if_false]
theorem put_great (g g' : Addr) (s t : Int) : putD (bagD g s t) (.inr "great") (.ptr g') = bagD g' s t := by
  simp only [putD, bagD, List.any, List.map, ksg, ktg, decide_true, decide_false, Bool.or_true, Bool.true_or, if_true, if_false]
structure BagF (p g : Addr) (ω : Store) : Prop where
  ex : ∃ s t, ω p = some (.dK (bagD g s t))
  gr : ∃ gs : List Int, ω g = some (.lst (gs.map D.int)) ∧ gs.length ≤ 63
def Frm (p g : Addr) (ω ω' : Store) : Prop := ∀ a, a ≠ p → a ≠ g → ω' a = ω a
def Kp (p g : Addr) (ω ω' : Store) : Prop := ∀ a, a ≠ p → a ≠ g → ω a ≠ none → ω' a = ω a
theorem Frm.kp (h : Frm p g ω ω') : Kp p g ω ω' := fun a h1 h2 _ => h a h1 h2
theorem Frm.refl : Frm p g ω ω := fun _ _ _ => rfl
theorem Frm.tr (h : Frm p g ω ω') (h' : Frm p g ω' ω2) : Frm p g ω ω2 := fun a h1 h2 => (h' a h1 h2).trans (h a h1 h2)
theorem Frm.sp {c : Cell} (h : Frm p g ω ω') : Frm p g ω (sup ω' p c) := fun a h1 h2 => (sup_ne h1).trans (h a h1 h2)
theorem Frm.sg {c : Cell} (h : Frm p g ω ω') : Frm p g ω (sup ω' g c) := fun a h1 h2 => (sup_ne h2).trans (h a h1 h2)
theorem BagF.ne (h : BagF p g ω) : p ≠ g := fun e => by
  obtain ⟨s, t, h1⟩ := h.ex
  obtain ⟨gs, h2, _⟩ := h.gr
  rw [e, h2] at h1
  cases h1
theorem BagF.sup {q : Addr} {c : Cell} (h : BagF p g ω) (hq : ω q = none) : BagF p g (sup ω q c) := by
  obtain ⟨s, t, h1⟩ := h.ex
  obtain ⟨gs, h2, h3⟩ := h.gr
  have n1 : p ≠ q := fun e => by rw [e, hq] at h1; cases h1
  have n2 : g ≠ q := fun e => by rw [e, hq] at h2; cases h2
  exact ⟨⟨s, t, by rw [sup_ne n1]; exact h1⟩, ⟨gs, by rw [sup_ne n2]; exact h2, h3⟩⟩
/-- a change at another cell -/
theorem BagF.sup' {q : Addr} {c : Cell} (h : BagF p g ω) (n1 : p ≠ q) (n2 : g ≠ q) : BagF p g (L3.sup ω q c) := by
  obtain ⟨s, t, h1⟩ := h.ex
  obtain ⟨gs, h2, h3⟩ := h.gr
  exact ⟨⟨s, t, by rw [sup_ne n1]; exact h1⟩, ⟨gs, by rw [sup_ne n2]; exact h2, h3⟩⟩
theorem BagF.del {q : Addr} (h : BagF p g ω) (n1 : p ≠ q) (n2 : g ≠ q) : BagF p g (del ω q) := by
  obtain ⟨s, t, h1⟩ := h.ex
  obtain ⟨gs, h2, h3⟩ := h.gr
  exact ⟨⟨s, t, by unfold L3.del; rw [if_neg n1]; exact h1⟩, ⟨gs, by unfold L3.del; rw [if_neg n2]; exact h2, h3⟩⟩
theorem py_ints : ∀ is : List Int, PyL ω (is.map D.int) (is.map PyData.int)
  | [] => .nil
  | i :: is => .cons (.int i) (py_ints is)
theorem py_strs : ∀ is : List Str, PyL ω (is.map D.str) (is.map PyData.str)
  | [] => .nil
  | i :: is => .cons (.str i) (py_strs is)
theorem lay_ints : ∀ is : List Int, PyData.canLayAll0 (is.map PyData.int) = true
  | [] => by simp [PyData.canLayAll0]
  | i :: is => by
    have := lay_ints is
    simp [PyData.canLayAll0, PyData.canLay0, this]
theorem lay_strs : ∀ {is : List Str}, (∀ s ∈ is, PyData.strOk s = true) → PyData.canLayAll0 (is.map PyData.str) = true
  | [], _ => by simp [PyData.canLayAll0]
  | i :: is, h => by
    have h1 := lay_strs fun s hs => h s (List.mem_cons_of_mem _ hs)
    have h2 := h i (List.mem_cons_self ..)
    simp only [List.map_cons, PyData.canLayAll0, PyData.canLay0, h1, h2, Bool.and_self]
theorem vNeNil {a : D} {ps : List PyData} (h : Py ω a (.list ps)) (h2 : PyData.canLayAll0 ps = true) (q : k (.bl (!ps.isEmpty)) ω) : sNe a (.lst []) ω x k :=
  vNeD h (.lst .nil) (by simp [PyData.canLay0, h2]) canLay_nil (by rw [depth_nil]; omega) (by rw [eqv_nil]; exact q)
theorem vEqNil {a : D} {ps : List PyData} (h : Py ω a (.list ps)) (h2 : PyData.canLayAll0 ps = true) (q : k (.bl ps.isEmpty) ω) : sEq a (.lst []) ω x k :=
  vEqD h (.lst .nil) (by simp [PyData.canLay0, h2]) canLay_nil (by rw [depth_nil]; omega) (by rw [eqv_nil]; exact q)
theorem vPop {es : List D} {d : D} (h : ω p = some (.lst (es ++ [d]))) (q : k d (L3.sup ω p (.lst es))) : sPop (.ptr p) [] ω x k := ⟨p, es, d, rfl, rfl, h, q⟩
theorem vSetK {kvs : List (Key × D)} {z : Str} {d : D} {kk : Store → Prop} (h : ω p = some (.dK kvs)) (hz : kvs.length < 1000000) (q : kk (L3.sup ω p (.dK (putD kvs (.inr z) d)))) : sSet (.ptr p) (.str z) d ω kk := .inr ⟨p, kvs, .inr z, rfl, rfl, h, small_lt hz, q⟩
/-- readings of the bag -/
theorem bGreat {s t : Int} (h : ω p = some (.dK (bagD g s t))) (q : k (.ptr g) ω) : sIx Y (.ptr p) (.str "great") ω x k := vIxK h (bag_great g s t) q
theorem bSeed {s t : Int} (h : ω p = some (.dK (bagD g s t))) (q : k (.int s) ω) : sIx Y (.ptr p) (.str "seed") ω x k := vIxK h (bag_seed g s t) q
theorem bTurn {s t : Int} (h : ω p = some (.dK (bagD g s t))) (q : k (.int t) ω) : sIx Y (.ptr p) (.str "turn") ω x k := vIxK h (bag_turn g s t) q
theorem bSetSeed {s t s' : Int} {kk : Store → Prop} (h : ω p = some (.dK (bagD g s t))) (q : kk (L3.sup ω p (.dK (bagD g s' t)))) : sSet (.ptr p) (.str "seed") (.int s') ω kk := vSetK h (by show 3 < _; omega) (by rw [put_seed]; exact q)
theorem bSetTurn {s t s' : Int} {kk : Store → Prop} (h : ω p = some (.dK (bagD g s t))) (q : kk (L3.sup ω p (.dK (bagD g s s')))) : sSet (.ptr p) (.str "turn") (.int s') ω kk := vSetK h (by show 3 < _; omega) (by rw [put_turn]; exact q)
theorem bSetGreat {s t : Int} {g' : Addr} {kk : Store → Prop} (h : ω p = some (.dK (bagD g s t))) (q : kk (L3.sup ω p (.dK (bagD g' s t)))) : sSet (.ptr p) (.str "great") (.ptr g') ω kk := vSetK h (by show 3 < _; omega) (by rw [put_great]; exact q)
/-- what the laws' drawing promises -/
def S_take : DSp := fun ds ω x k => ∃ (p g : Addr) (m : Int), ds = [.ptr p, .int m] ∧ BagF p g ω ∧ 1 ≤ m ∧ m ≤ 1000000 ∧ ∀ r ω', 0 ≤ r → r < m → BagF p g ω' → Frm p g ω ω' → k (.int r) ω'
def S_pick : DSp := fun ds ω x k => ∃ (p g : Addr) (es : List D), ds = [.ptr p, .lst es] ∧ BagF p g ω ∧ 1 ≤ es.length ∧ es.length ≤ 1000000 ∧ ∀ e ω', e ∈ es → BagF p g ω' → Frm p g ω ω' → k e ω'
theorem vTake {m : Int} (hb : BagF p g ω) (h1 : 1 ≤ m) (h2 : m ≤ 1000000) (q : ∀ r ω', 0 ≤ r → r < m → BagF p g ω' → Frm p g ω ω' → k (.int r) ω') : S_take [.ptr p, .int m] ω x k := ⟨p, g, m, rfl, hb, h1, h2, q⟩
theorem vPick {es : List D} (hb : BagF p g ω) (h1 : 1 ≤ es.length) (h2 : es.length ≤ 1000000) (q : ∀ e ω', e ∈ es → BagF p g ω' → Frm p g ω ω' → k e ω') : S_pick [.ptr p, .lst es] ω x k := ⟨p, g, es, rfl, hb, h1, h2, q⟩
/-- a comprehension over range(n) whose turns draw -/
theorem lc_bag {da : LTA} {gt : LTG} {te : LTE} {vs : List Nat} (n : Nat) (Q : D → Prop) (hn : n < 1000000) (hi : ∀ k0 : List D → Store → Prop, k0 [.int (n : Int)] ω → da ρ ω x k0) (hb : BagF p g ω)
    (ht : ∀ i ω1 (k1 : KV), i < n → BagF p g ω1 → Kp p g ω ω1 → (∀ d ω2, Q d → BagF p g ω2 → Frm p g ω1 ω2 → k1 d ω2) → gt (.int (i : Int)) (wipeD ρ vs) ω1 X0 fun ρ2 ω2 => te ρ2 ω2 X0 k1)
    (q : ∀ ds ω', ds.length = n → (∀ d ∈ ds, Q d) → BagF p g ω' → Frm p g ω ω' → k (.lst ds) ω') : dLc (diR1 da) gt dYes te vs ρ ω x k := by
  have hl : (rngD 0 n).length = n := by unfold rngD; rw [List.length_map, List.length_range]
  refine hi _ ⟨n, rfl, by omega, by omega, ?_⟩
  rw [Int.toNat_natCast]
  intro c hc
  obtain ⟨s0, t0, e0⟩ := hb.ex
  obtain ⟨gs0, e1, _⟩ := hb.gr
  have n1 : p ≠ c := fun e => by rw [e, hc] at e0; cases e0
  have n2 : g ≠ c := fun e => by rw [e, hc] at e1; cases e1
  refine ⟨fun i ω' => ∃ acc, ω' c = some (.lst acc) ∧ acc.length = i ∧ (∀ d ∈ acc, Q d) ∧ BagF p g ω' ∧ ∀ a, a ≠ p → a ≠ g → a ≠ c → ω' a = ω a, ⟨[], sup_same, rfl, (by intro d h; cases h), hb.sup hc, fun a _ _ h => sup_ne h⟩, fun _ _ _ => trivial, fun i d ω1 hd ⟨acc, a1, a2, a3, a4, a5⟩ => ?_, fun ω1 ⟨acc, a1, a2, a3, a4, a5⟩ => ?_⟩
  · unfold rngD at hd
    rw [List.getElem?_map] at hd
    by_cases hlt : i < n
    · rw [List.getElem?_range hlt] at hd
      cases hd
      have e : ((0 : Int) + (i : Nat)) = (i : Int) := Int.zero_add _
      show gt (.int ((0 : Int) + (i : Nat))) _ _ _ _
      rw [e]
      refine ht i ω1 _ hlt a4 (fun a h1 h2 h3 => a5 a h1 h2 fun e => h3 (by rw [e]; exact hc)) fun d ω2 qd hb2 fr => ?_
      have e2 : ω2 c = some (.lst acc) := (fr c (Ne.symm n1) (Ne.symm n2)).trans a1
      refine ⟨acc, e2, by rw [a2]; exact small_lt (by omega), acc ++ [d], sup_same, by rw [List.length_append, a2]; rfl, fun z hz => ?_, hb2.sup' n1 n2, fun a h1 h2 h3 => by rw [sup_ne h3, fr a h1 h2, a5 a h1 h2 h3]⟩
      rcases List.mem_append.mp hz with h | h
      · exact a3 z h
      · obtain rfl := List.mem_singleton.mp h
        exact qd
    · rw [List.getElem?_eq_none (by rw [List.length_range]; omega)] at hd
      cases hd
  · rw [hl] at a2
    refine .inr ⟨acc, a1, q acc _ a2 a3 (a4.del n1 n2) fun a h1 h2 => ?_⟩
    unfold L3.del
    by_cases h : a = c
    · rw [if_pos h, h, hc]
    · rw [if_neg h, a5 a h1 h2 h]
end
end L3
/-! L3n: drawn formulas. -/
namespace L3
open PySem L2 PySem.Spec PyProof.Rows
open PySem (PyData)
mutual
/-- letters are of the names ns, or bound above -/
def Fm.inn : List Str → Fm → Bool
  | ns, .lt x => ns.contains x
  | ns, .nt f => Fm.inn ns f
  | ns, .row _ fs => Fm.inns ns fs
  | ns, .sm f g => Fm.inn ns f && Fm.inn ns g
  | ns, .qt _ x f => Fm.inn (ns ++ [x]) f
def Fm.inns : List Str → List Fm → Bool
  | _, [] => true
  | ns, f :: fs => Fm.inn ns f && Fm.inns ns fs
end
theorem inns_of {ns : List Str} : ∀ {fs : List Fm}, (∀ f ∈ fs, f.inn ns = true) → Fm.inns ns fs = true
  | [], _ => rfl
  | g :: fs, h => by
    show (g.inn ns && Fm.inns ns fs) = true
    rw [h g (List.mem_cons_self ..), inns_of fun f hf => h f (List.mem_cons_of_mem _ hf)]
    rfl
structure GenF (ns : List Str) (size more : Int) (f : Fm) : Prop where
  named : f.named okName = true
  depth : (f.depth : Int) ≤ max size 1
  nodes : (f.nodes : Int) ≤ 4 * max size 1 - 3
  plain : more ≤ 0 → f.plain = true
  inn : f.inn ns = true
def S_formula (n : Nat) : DSp := fun ds ω x k => ∃ (p g : Addr) (ns : List Str) (size more : Int), ds = [.ptr p, .lst (ns.map D.str), .int size, .int more] ∧ BagF p g ω ∧ 0 ≤ size ∧ size < n ∧ 0 ≤ more ∧ more + ns.length ≤ 1000 ∧ (∀ s ∈ ns, okName s = true) ∧ ∀ f ω', GenF ns size more f → BagF p g ω' → Frm p g ω ω' → k f.enc ω'
theorem nodess_le {B : Nat} : ∀ {fs : List Fm}, (∀ f ∈ fs, f.nodes ≤ B) → Fm.nodess fs ≤ fs.length * B
  | [], _ => Nat.zero_le _
  | g :: fs, h => by
    show g.nodes + Fm.nodess fs ≤ (fs.length + 1) * B
    have h1 := h g (List.mem_cons_self ..)
    have h2 := nodess_le fun f hf => h f (List.mem_cons_of_mem _ hf)
    rw [Nat.add_mul, Nat.one_mul]
    omega
theorem encs_of {P : Fm → Prop} : ∀ {ds : List D}, (∀ d ∈ ds, ∃ f : Fm, d = f.enc ∧ P f) → ∃ fs : List Fm, ds = Fm.encs fs ∧ fs.length = ds.length ∧ ∀ f ∈ fs, P f
  | [], _ => ⟨[], rfl, rfl, by intro f h; cases h⟩
  | d :: ds, h => by
    obtain ⟨f, rfl, hf⟩ := h d (List.mem_cons_self ..)
    obtain ⟨fs, rfl, hl, hp⟩ := encs_of fun e he => h e (List.mem_cons_of_mem _ he)
    refine ⟨f :: fs, rfl, by rw [List.length_cons, List.length_cons, hl], fun g hg => ?_⟩
    rcases List.mem_cons.mp hg with e | e
    · rw [e]
      exact hf
    · exact hp g e
theorem GenF.row {ns : List Str} {size more : Int} {b : Bool} {m : Nat} {fs : List Fm} (h : 2 ≤ size) (hm : m = 2 ∨ m = 3) (hl : fs.length = m) (hf : ∀ f ∈ fs, GenF ns ((size - 1) / m) more f) : GenF ns size more (.row b fs) := by
  have hd : Fm.depths fs ≤ (max ((size - 1) / m) 1).toNat := depths_le fun f hf' => by have := (hf f hf').depth; omega
  have hn : Fm.nodess fs ≤ fs.length * (4 * max ((size - 1) / m) 1 - 3).toNat := nodess_le fun f hf' => by have := (hf f hf').nodes; omega
  refine ⟨nameds_of fun f hf' => (hf f hf').named, ?_, ?_, fun h => plains_of fun f hf' => (hf f hf').plain h, inns_of fun f hf' => (hf f hf').inn⟩
  · show ((Fm.depths fs + 1 : Nat) : Int) ≤ _
    rcases hm with rfl | rfl <;> omega
  · show ((Fm.nodess fs + 1 : Nat) : Int) ≤ _
    rw [hl] at hn
    rcases hm with rfl | rfl <;> omega
theorem GenF.row0 {ns : List Str} {size more : Int} {b : Bool} : GenF ns size more (.row b []) :=
  ⟨rfl, by show ((1 : Nat) : Int) ≤ _; omega, by show ((1 : Nat) : Int) ≤ _; omega, fun _ => rfl, rfl⟩
theorem GenF.lt {ns : List Str} {size more : Int} {s : Str} (h : s ∈ ns) (ho : okName s = true) : GenF ns size more (.lt s) :=
  ⟨ho, by show ((1 : Nat) : Int) ≤ _; omega, by show ((1 : Nat) : Int) ≤ _; omega, fun _ => rfl, List.contains_iff_mem.mpr h⟩
theorem GenF.nt {ns : List Str} {size more : Int} {f : Fm} (h : 2 ≤ size) (g : GenF ns (size - 1) more f) : GenF ns size more (.nt f) := by
  have := g.depth
  have := g.nodes
  exact ⟨g.named, by show ((f.depth + 1 : Nat) : Int) ≤ _; omega, by show ((f.nodes + 1 : Nat) : Int) ≤ _; omega, g.plain, g.inn⟩
theorem GenF.qt {ns : List Str} {size more : Int} {b : Bool} {x : Str} {f : Fm} (h : 2 ≤ size) (hm : 0 < more) (ho : okName x = true) (g : GenF (ns ++ [x]) (size - 1) (more - 1) f) : GenF ns size more (.qt b x f) := by
  have := g.depth
  have := g.nodes
  exact ⟨by show (okName x && f.named okName) = true; rw [ho, g.named]; rfl, by show ((f.depth + 1 : Nat) : Int) ≤ _; omega, by show ((f.nodes + 1 : Nat) : Int) ≤ _; omega, fun z => absurd z (by omega), g.inn⟩
theorem GenF.sm {ns : List Str} {size more : Int} {f1 f2 : Fm} (h : 2 ≤ size) (g1 : GenF ns (size / 2) more f1) (g2 : GenF ns (size / 2) more f2) : GenF ns size more (.sm f1 f2) := by
  have := g1.depth
  have := g1.nodes
  have := g2.depth
  have := g2.nodes
  exact ⟨by show (f1.named okName && f2.named okName) = true; rw [g1.named, g2.named]; rfl, by show ((max f1.depth f2.depth + 1 : Nat) : Int) ≤ _; omega, by show ((f1.nodes + f2.nodes + 1 : Nat) : Int) ≤ _; omega, fun z => by show (f1.plain && f2.plain) = true; rw [g1.plain z, g2.plain z]; rfl, by show (f1.inn ns && f2.inn ns) = true; rw [g1.inn, g2.inn]; rfl⟩
theorem of_wd {e : D} (h : e ∈ [D.str "and", D.str "or"]) : ∃ b, e = .str (wd b) := by
  rcases List.mem_cons.mp h with e | e
  · exact ⟨true, e⟩
  · exact ⟨false, List.mem_singleton.mp e⟩
theorem of_qd {e : D} (h : e ∈ [D.str "each", D.str "some"]) : ∃ b, e = .str (qd b) := by
  rcases List.mem_cons.mp h with e | e
  · exact ⟨true, e⟩
  · exact ⟨false, List.mem_singleton.mp e⟩
theorem of_nm {e : D} (h : e ∈ [D.str "x", D.str "y", D.str "z", D.str "x1"]) : ∃ s, e = .str s ∧ okName s = true := by
  rcases List.mem_cons.mp h with e | h
  · exact ⟨_, e, by decide +kernel⟩
  rcases List.mem_cons.mp h with e | h
  · exact ⟨_, e, by decide +kernel⟩
  rcases List.mem_cons.mp h with e | h
  · exact ⟨_, e, by decide +kernel⟩
  · exact ⟨_, List.mem_singleton.mp h, by decide +kernel⟩
mutual
theorem low_named {p : Str → Bool} : ∀ (f : Fm) (b : Bool), f.named p = true → (f.low b).named p = true
  | .lt x, b, h => by cases b <;> exact h
  | .nt f, b, h => low_named f (!b) h
  | .row c fs, b, h => lows_named fs b h
  | .sm f g, b, h => by
    have h : f.named p = true ∧ g.named p = true := by rw [← Bool.and_eq_true]; exact h
    have a1 := low_named f true h.1
    have a2 := low_named f false h.1
    have a3 := low_named g true h.2
    have a4 := low_named g false h.2
    cases b with
    | true =>
      show (((f.low false).named p && ((g.low true).named p && true)) && ((((f.low true).named p && ((g.low false).named p && true))) && true)) = true
      rw [a1, a2, a3, a4]
      rfl
    | false =>
      show (((f.low true).named p && ((g.low true).named p && true)) && ((((f.low false).named p && ((g.low false).named p && true))) && true)) = true
      rw [a1, a2, a3, a4]
      rfl
  | .qt c x f, b, h => h
theorem lows_named {p : Str → Bool} : ∀ (fs : List Fm) (b : Bool), Fm.nameds p fs = true → Fm.nameds p (Fm.lows fs b) = true
  | [], _, _ => rfl
  | f :: fs, b, h => by
    have h : f.named p = true ∧ Fm.nameds p fs = true := by rw [← Bool.and_eq_true]; exact h
    show ((f.low b).named p && Fm.nameds p (Fm.lows fs b)) = true
    rw [low_named f b h.1, lows_named fs b h.2]
    rfl
end
/-- what of a formula is asked for that it be told lowered -/
structure Fit (f : Fm) : Prop where
  plain : f.plain = true
  depth : f.depth ≤ 50
  nodes : f.nodes ≤ 1000
  named : f.named okName = true
  ln : (f.low true).nodes ≤ 400
  ld : (f.low true).depth ≤ 40
def fitB (f : Fm) : Bool := f.plain && decide (f.depth ≤ 50) && decide (f.nodes ≤ 1000) && f.named okName && decide ((f.low true).nodes ≤ 400) && decide ((f.low true).depth ≤ 40)
theorem fit_of {f : Fm} (h : fitB f = true) : Fit f := by
  unfold fitB at h
  simp only [Bool.and_eq_true, decide_eq_true_eq] at h
  obtain ⟨⟨⟨⟨⟨h1, h2⟩, h3⟩, h4⟩, h5⟩, h6⟩ := h
  exact ⟨h1, h2, h3, h4, h5, h6⟩
def nts : Nat → Fm → Fm
  | 0, f => f
  | n + 1, f => .nt (nts n f)
theorem nts_plain {f : Fm} : ∀ n, (nts n f).plain = f.plain
  | 0 => rfl
  | n + 1 => nts_plain n
theorem nts_depth {f : Fm} : ∀ n, (nts n f).depth = f.depth + n
  | 0 => rfl
  | n + 1 => by show (nts n f).depth + 1 = _; rw [nts_depth n]; omega
theorem nts_nodes {f : Fm} : ∀ n, (nts n f).nodes = f.nodes + n
  | 0 => rfl
  | n + 1 => by show (nts n f).nodes + 1 = _; rw [nts_nodes n]; omega
theorem nts_named {p : Str → Bool} {f : Fm} : ∀ n, (nts n f).named p = f.named p
  | 0 => rfl
  | n + 1 => nts_named n
theorem nts_low {f : Fm} : ∀ n b, (nts n f).low b = f.low true ∨ (nts n f).low b = f.low false
  | 0, true => .inl rfl
  | 0, false => .inr rfl
  | n + 1, b => nts_low n (!b)
/-- the bag of the laws, filled from the script -/
def S_bag : DSp := fun ds ω x k => ∃ is : List Int, ds = [.sq (is.map D.int)] ∧ is.length ≤ 63 ∧ ∀ p g ω', BagF p g ω' → (∀ a, ω a ≠ none → ω' a = ω a) → k (.ptr p) ω'
theorem merge_bag (g : Addr) (s t : Int) : mergeD [(.inr "great", .ptr g), (.inr "seed", .int s), (.inr "turn", .int t)] = bagD g s t := by
  unfold mergeD
  simp only [List.foldl, putD, bagD, List.any, List.map, kgs, kgt, kst, decide_true, decide_false, Bool.or_true, Bool.true_or, Bool.or_false, if_true, if_false, List.nil_append, List.cons_append, Bool.false_eq_true, ite_false]
theorem cut_ints (is : List Int) (h : is.length ≤ 63) : cutD (is.map D.int) none (some 63) = is.map D.int := by
  rw [cut_take _ (by decide)]
  exact List.take_of_length_le (by rw [List.length_map]; exact h)
/-- arguments by names alone -/
def only {α : Type} : List α → List α → List α
  | [], ws => ws
  | _ :: _, _ => []
theorem ord_only : Ord only only only := ⟨fun h h' => by
  cases h with
  | nil => exact h'
  | cons _ _ => exact .nil, fun h h' => by
  cases h with
  | nil => exact h'
  | cons _ _ => exact .nil⟩
section
variable {ρ : Rho} {ω : Store} {L : LEnds}
/-- behind the count of a range that is walked -/
def RgK (g : LTG) (tb : LTS) (L : LEnds) (ρ : Rho) : List D → Store → Prop := fun ds ω1 => ∃ j : Int, ds = [.int j] ∧ -(2 ^ 62) ≤ j ∧ j < 2 ^ 62 ∧ ∃ I : Nat → Rho → Store → Prop, I 0 ρ ω1 ∧ (∀ i ρ ω, I i ρ ω → True) ∧
  (∀ i d ρ ω, (rngD 0 j.toNat)[i]? = some d → I i ρ ω → g d ρ ω L.xc fun ρ' ω' => tb (L.loop (I (i + 1))) ρ' ω') ∧ ∀ ρ ω, I (rngD 0 j.toNat).length ρ ω → L.nx ρ ω
theorem gForR {g : LTG} {tb : LTS} {da : LTA} (h : da ρ ω L.xc (RgK g tb L ρ)) : dFor (diR1 da) g tb L ρ ω := h
theorem gRg {g : LTG} {tb : LTS} (n : Nat) (I : Nat → Rho → Store → Prop) (hn : n < 1000000) (h0 : I 0 ρ ω) (ht : ∀ i ρ ω, i < n → I i ρ ω → g (.int (i : Int)) ρ ω L.xc fun ρ' ω' => tb (L.loop (I (i + 1))) ρ' ω') (he : ∀ ρ ω, I n ρ ω → L.nx ρ ω) : RgK g tb L ρ [.int (n : Int)] ω :=
  for_r1 (da := fun _ ω _ k => k [.int (n : Int)] ω) n I hn (fun k0 h => h) h0 ht he
end
end L3
/-! L3o: the ends. -/
namespace L3
open PySem L2 PySem.Spec PyProof.Rows
open PySem (PyData)
/-- what a law promises -/
def S_law : DSp := fun ds ω x k => ∃ is : List Int, ds = [.sq (is.map D.int)] ∧ is.length ≤ 63 ∧ ∀ ω', k (.bl true) ω'
section
variable {P : Program} {w : World} {K : PySem.W.Frag} {mg mb : Str → Option Value} {base : Heap}
theorem rpl_ints {F : Hp} : ∀ is : List Int, RpL K F (is.map V.int) (is.map D.int)
  | [] => .nil
  | i :: is => .cons (.int i) (rpl_ints is)
theorem Tx.mk' {h : Heap} {x : Str} {st : Stmt} {ps : List Str} {f : Addr} {oc : Value} {od an : Option Addr} {osl : Array (Option Value)} {kV doc pm cdv ct : Value} (X : K.In h) (G : h.Ns mainGlobals mg) (a : PySem.W.nsIn K mainGlobals x = some (some (.ref f)))
    (l : K.lookup f = some ⟨oc, od, .func (PySem.W.fnOf x x (defArgs st) (defBody st) (defScope st) .none kV doc pm an cdv ct), osl⟩) (c : PySem.W.codeIn K cdv x = true) (k : PySem.W.keepIn K (.ref f) = true)
    (b : ∀ (kV doc pm : Value) (an : Option Addr) (cdv ct : Value) (us : List Value), us.length = ps.length → bindArgs (PySem.W.fnOf x x (defArgs st) (defBody st) (defScope st) .none kV doc pm an cdv ct) ⟨us, []⟩ = pure (ps.zip us)) : Tx K mg x st ps :=
  ⟨f, _, fun_mk l c k, PySem.W.mg_of X G a, (fun_mk l c k).binds b⟩
theorem cst_int {h : Heap} {x : Str} {i : Int} {t : Tok} (X : K.In h) (G : h.Ns mainGlobals mg) (a : PySem.W.nsIn K mainGlobals x = some (some (.int i t))) : CstD K mg x (.int i) (.int i) := ⟨⟨_, PySem.W.mg_of X G a, ⟨t, rfl⟩⟩, fun F => .int i⟩
theorem cst_tup {h : Heap} {x : Str} {r : Addr} {o : Obj} {its : Array Value} {n : Nat} {vs : List V} {ds : List D} (X : K.In h) (G : h.Ns mainGlobals mg) (a : PySem.W.nsIn K mainGlobals x = some (some (.ref r))) (l : K.lookup r = some o) (hc : o.cls = .type "tuple") (hd : o.data = .seq its n) (hz : its.size ≤ 1000000)
    (hv : Vals vs its.toList) (hr : ∀ F, RpL K F vs ds) : CstD K mg x (.ref r) (.tup ds) := ⟨⟨_, PySem.W.mg_of X G a, rfl⟩, fun F => .tup (.inr ⟨o, its, n, l, hc, hd, small_le hz, hv⟩) (hr F)⟩
theorem cst_ptr {h : Heap} {x : Str} {r : Addr} (X : K.In h) (G : h.Ns mainGlobals mg) (a : PySem.W.nsIn K mainGlobals x = some (some (.ref r))) : CstD K mg x (.ref r) (.ptr r) := ⟨⟨_, PySem.W.mg_of X G a, rfl⟩, fun F => .ptr r⟩
theorem kd_str {p : Addr} {z s : Str} {es : Array DictEntry} {n : Nat} {t : Tok} (l : K.lookup p = some ⟨.type "dict", none, .dict es n, #[]⟩) (hk : PySem.W.KeysLit w.params es.toList) (a : PySem.W.nsIn K p z = some (some (.str s t))) : KD K w p z (.str s) := ⟨.str s, ⟨es, n, _, l, hk, a, ⟨t, rfl⟩⟩, fun F => .str s⟩
/-- the law called, at the heap behind the top -/
theorem law_run {g : Bool} {k : Nat} {fa a : Addr} {st : Stmt} {x p : Str} {s1 : Shared} {vs : List Value} {ns : List Int} (kx : K.In s1.heap) (gx : s1.heap.Ns mainGlobals mg) (bx : s1.heap.Ns builtinsNs mb) (bb : ∀ x : Str, x ≠ "__name__" → mb x = bootBuiltins x) (nl : s1.heap.NoLimit) (g0 : s1.gens = #[])
    (oa : s1.heap.get? a = some { cls := .type "list", data := .seq vs.toArray }) (iv : IntsAre vs ns) (hl : ns.length ≤ 63) (rm : Room k callerA) (hfa : mg x = some (.ref fa)) (B : ∀ base : Heap, K.In base → base.Ns mainGlobals mg → Df g P w K mg base CX0 k x st [p] S_law) :
    codeAny (model P w) callerA (.call (.ref fa) ⟨[.ref a], []⟩) (fun r s2 => r = .ok (.ret (.bool true)) ∧ OldK s1.heap s2.heap ∧ s2.os = s1.os ∧ AllBare s2.gens) s1 := by
  have rv := vals_ints iv
  have len := iv.length
  have z63 : ns.length ≤ sizeLine := small_le (by omega)
  have main : ∀ H : Hp, Only H → SqL K H a (ns.map V.int) → HOk P w H s1.heap → (∀ b, H b ≠ none → b = a) → (H a ≠ none → K.lookup a = none) →
      codeAny (model P w) callerA (.call (.ref fa) ⟨[.ref a], []⟩) (fun r s2 => r = .ok (.ret (.bool true)) ∧ OldK s1.heap s2.heap ∧ s2.os = s1.os ∧ AllBare s2.gens) s1 := by
    intro H on sq ok at_a ka
    have un : ∀ {b : Addr}, b ≠ a → H b = none := fun {b} ne => by
      cases e : H b with
      | none => rfl
      | some u => exact absurd (at_a b (by rw [e]; exact Option.some_ne_none _)) ne
    have nsn : ∀ {b : Addr} {m : Str → Option Value}, s1.heap.Ns b m → (hidT s1.heap H).Ns b m := fun {b m} ⟨o, es, ep, e, d, r⟩ => by
      refine ⟨o, es, ep, hidT_get e (un fun z => ?_), d, r⟩
      rw [z, oa] at e
      cases e
      have d' : Data.seq vs.toArray _ = Data.dict es ep := d
      cases d'
    have kb : K.In (hidT s1.heap H) := fun b o e => by
      refine hidT_get (kx b o e) ?_
      by_cases z : b = a
      · cases q : H b with
        | none => rfl
        | some u =>
          rw [z] at q e
          rw [ka (by rw [q]; exact Option.some_ne_none _)] at e
          cases e
      · exact un z
    have md : Mod K mg (hidT s1.heap H) := ⟨kb, nsn gx, ⟨mb, nsn bx, bb⟩, let ⟨mc, h1, h2⟩ := nl; ⟨mc, nsn h1, h2⟩⟩
    have e0 : Env0 P w K mg (hidT s1.heap H) callerA [] s1 H := ⟨rfl, md, fun b o e => of_hidT e, Nat.le_of_eq (hidT_size _ _), trivial, fun b hb => absurd (show b ∈ ([] : List Addr) from hb) (by simp), ok, .of_eq g0⟩
    obtain ⟨f, fd, F, hm, Fu, bd⟩ := (B _ kb (nsn gx)).ex
    obtain rfl : f = fa := by
      rw [hm] at hfa
      cases hfa
      rfl
    have sp : lift K S_law [.ref a] H (fun v _ => v = .bl true) fun _ _ _ => False :=
      ⟨H, fun _ => none, [.sq (ns.map D.int)], fun _ _ => False, fun d _ => d = .bl true, ⟨fun _ _ e => e, fun _ _ e => by cases e⟩, .cons (.sq sq (rpl_ints ns)) .nil, ⟨ns, rfl, hl, fun _ => rfl⟩, fun _ _ _ _ _ q => q.elim, fun v d F' H' ω' q _ _ r => by
        subst q
        exact r.bl_inv⟩
    refine codeAny_mono (F.go callerA [] s1 H ⟨[.ref a], []⟩ [.ref a] [.ref a] (fun v _ => v = .bl true) (fun _ _ _ => False) (fun _ => rfl) rm e0 (bd s1 [.ref a] kx rfl) (.cons rfl .nil) sp) fun r s2 h => ?_
    cases r with
    | error e => exact False.elim h
    | ok fl =>
      cases fl with
      | ret u =>
        obtain ⟨v, H2, os, bare, un2, ok2, r2, q⟩ := h
        have q : v = .bl true := q
        subst q
        obtain rfl : u = Value.bool true := r2
        refine ⟨rfl, OldK.of_keep fun b o e => ?_, os, bare⟩
        cases hb : H b with
        | none => exact un2.keep b o e hb (by intro z; exact absurd (show b ∈ ([] : List Addr) from z) (by simp)) (by simp)
        | some u =>
          obtain ⟨ob, xs, z⟩ := (on b).resolve_left (by rw [hb]; exact Option.some_ne_none _)
          obtain ⟨e1, _⟩ := ok b _ z
          obtain ⟨e2, _⟩ := ok2 b _ (un2.frzs b ob _ z)
          rw [e] at e1
          cases e1
          exact e2
      | _ => exact False.elim h
  cases hk : K.lookup a with
  | some o =>
    have e := kx a o hk
    rw [oa] at e
    cases e
    exact main (fun _ => none) (fun _ => .inl rfl) (.inr ⟨_, vs.toArray, _, hk, rfl, rfl, rfl, by rw [List.size_toArray, len]; exact z63, by simpa using rv⟩) (fun b u z => by have z : (none : Option HO) = some u := z; cases z) (fun b z => absurd rfl z) fun z => absurd rfl z
  | none =>
    have at1 : (fun b => if b = a then some (HO.frz { cls := .type "list", data := .seq vs.toArray } (.lst (ns.map V.int))) else none : Hp) a = some (.frz { cls := .type "list", data := .seq vs.toArray } (.lst (ns.map V.int))) := if_pos rfl
    refine main (fun b => if b = a then some (.frz { cls := .type "list", data := .seq vs.toArray } (.lst (ns.map V.int))) else none) (fun b => ?_) (.inl (.inr ⟨_, at1⟩)) (fun b u z => ?_) (fun b z => Classical.byContradiction fun n => z (if_neg n)) fun _ => hk
    · by_cases n : b = a
      · exact .inr ⟨_, _, if_pos n⟩
      · exact .inl (if_neg n)
    · by_cases n : b = a
      · subst n
        have z2 := at1.symm.trans z
        cases z2
        exact ⟨oa, by rw [List.length_map]; exact z63, vs, _, rv, oa⟩
      · have z2 := (if_neg n).symm.trans z
        cases z2
/-- the goal that k_head leaves -/
theorem walk_end {g : Bool} {l : PySem.W.OpenLaw} {k : Nat} {q : Program} {loose : List Str} {XP : (Str → Option Value) → Heap → Prop} {YP : World → Heap → Prop} {d : DefRec} {K : Params → PySem.W.Frag} {st : Stmt} {p : Str} (hn : l.most = some 63) (hdf : d.params.defaults = []) (rm : Room k callerA) (hY : ∀ (w : World) (h : Heap), YP w h → (K w.params).In h)
    (B : ∀ (w : World) (mg : Str → Option Value) (h : Heap), (K w.params).In h → h.Ns mainGlobals mg → ∀ base : Heap, (K w.params).In base → base.Ns mainGlobals mg → Df g l.prog w (K w.params) mg base CX0 k d.name st [p] S_law) :
    PySem.W.WalkO q loose XP YP l.row.toRowW d [] (fun f vs => PySem.call f vs) :=
  Att.attach_call hn hdf fun w s₀ s1 mg mb fa o pm cd doc a vs ns G Y ho hd hcd hmg hobj hints hlen hg =>
    law_run (hY w _ Y) G.T.g G.T.b G.T.builtins G.T.nolimit hg hobj hints hlen rm hmg (B w mg _ (hY w _ Y) G.T.g)
end
end L3
/-! Pl: quantifiers put ahead. -/
namespace L3
open PySem L2 PySem.Spec PyProof.Rows
open PySem (PyData)
/-- the n-th fresh name -/
def fr (n : Nat) : Str := ("v" : Str) ++ (toString (n : Int) : Str)
def set1 (ν : Str → Str) (x v : Str) : Str → Str := fun y => if y = x then v else ν y
mutual
def Fm.pull : Fm → Bool → (Str → Str) → Nat → Fm × List Bool
  | .lt x, _, ν, _ => (.lt (ν x), [])
  | .nt f, b, ν, n => (.nt (f.pull (!b) ν n).1, (f.pull (!b) ν n).2)
  | .row c fs, b, ν, n => (.row c (Fm.pulls fs b ν n).1, (Fm.pulls fs b ν n).2)
  | .sm f g, b, ν, n =>
    let r1 := f.pull b ν n
    let r2 := g.pull b ν (n + r1.2.length)
    let r3 := f.pull (!b) ν (n + r1.2.length + r2.2.length)
    let r4 := g.pull (!b) ν (n + r1.2.length + r2.2.length + r3.2.length)
    if (f.plain && g.plain) = true then (.sm r1.1 r2.1, r1.2 ++ r2.2) else (.row false [.row true [r1.1, r2.1], .row true [.nt r3.1, .nt r4.1]], r1.2 ++ r2.2 ++ r3.2 ++ r4.2)
  | .qt c x f, b, ν, n => ((f.pull b (set1 ν x (fr (n + 1))) (n + 1)).1, (if b then c else !c) :: (f.pull b (set1 ν x (fr (n + 1))) (n + 1)).2)
def Fm.pulls : List Fm → Bool → (Str → Str) → Nat → List Fm × List Bool
  | [], _, _, _ => ([], [])
  | f :: fs, b, ν, n => ((f.pull b ν n).1 :: (Fm.pulls fs b ν (n + (f.pull b ν n).2.length)).1, (f.pull b ν n).2 ++ (Fm.pulls fs b ν (n + (f.pull b ν n).2.length)).2)
end
mutual
def Fm.qn : Fm → Nat
  | .lt _ => 0
  | .nt f => f.qn
  | .row _ fs => Fm.qns fs
  | .sm f g => 2 * (f.qn + g.qn)
  | .qt _ _ f => f.qn + 1
def Fm.qns : List Fm → Nat
  | [] => 0
  | f :: fs => f.qn + Fm.qns fs
end
mutual
def Fm.nn : Fm → Nat
  | .lt _ => 1
  | .nt f => f.nn + 1
  | .row _ fs => Fm.nns fs + 1
  | .sm f g => if (f.plain && g.plain) = true then f.nn + g.nn + 1 else 2 * (f.nn + g.nn) + 5
  | .qt _ _ f => f.nn
def Fm.nns : List Fm → Nat
  | [] => 0
  | f :: fs => f.nn + Fm.nns fs
end
mutual
def Fm.dd : Fm → Nat
  | .lt _ => 1
  | .nt f => f.dd + 1
  | .row _ fs => Fm.dds fs + 1
  | .sm f g => if (f.plain && g.plain) = true then max f.dd g.dd + 1 else max f.dd g.dd + 3
  | .qt _ _ f => f.dd
def Fm.dds : List Fm → Nat
  | [] => 0
  | f :: fs => max f.dd (Fm.dds fs)
end
mutual
theorem qn_plain : ∀ f : Fm, f.plain = true → f.qn = 0
  | .lt _, _ => rfl
  | .nt f, h => qn_plain f h
  | .row _ fs, h => qns_plain fs h
  | .sm f g, h => by
    have h : f.plain = true ∧ g.plain = true := by rw [← Bool.and_eq_true]; exact h
    show 2 * (f.qn + g.qn) = 0
    rw [qn_plain f h.1, qn_plain g h.2]
  | .qt _ _ _, h => by cases h
theorem qns_plain : ∀ fs : List Fm, Fm.plains fs = true → Fm.qns fs = 0
  | [], _ => rfl
  | f :: fs, h => by
    have h : f.plain = true ∧ Fm.plains fs = true := by rw [← Bool.and_eq_true]; exact h
    show f.qn + Fm.qns fs = 0
    rw [qn_plain f h.1, qns_plain fs h.2]
end
mutual
theorem plain_qn : ∀ f : Fm, f.qn = 0 → f.plain = true
  | .lt _, _ => rfl
  | .nt f, h => plain_qn f h
  | .row _ fs, h => plain_qns fs h
  | .sm f g, h => by
    have h : 2 * (f.qn + g.qn) = 0 := h
    show (f.plain && g.plain) = true
    rw [plain_qn f (by omega), plain_qn g (by omega)]
    rfl
  | .qt _ _ f, h => by
    have h : f.qn + 1 = 0 := h
    omega
theorem plain_qns : ∀ fs : List Fm, Fm.qns fs = 0 → Fm.plains fs = true
  | [], _ => rfl
  | f :: fs, h => by
    have h : f.qn + Fm.qns fs = 0 := h
    show (f.plain && Fm.plains fs) = true
    rw [plain_qn f (by omega), plain_qns fs (by omega)]
    rfl
end
mutual
theorem pull_len : ∀ (f : Fm) (b : Bool) (ν : Str → Str) (n : Nat), (f.pull b ν n).2.length = f.qn
  | .lt _, _, _, _ => rfl
  | .nt f, b, ν, n => pull_len f (!b) ν n
  | .row _ fs, b, ν, n => pulls_len fs b ν n
  | .sm f g, b, ν, n => by
    unfold Fm.pull
    have h1 := pull_len f
    have h2 := pull_len g
    by_cases h : (f.plain && g.plain) = true
    · have hp : f.plain = true ∧ g.plain = true := by rw [← Bool.and_eq_true]; exact h
      simp only [h, if_true, List.length_append, h1, h2]
      show _ = 2 * (f.qn + g.qn)
      rw [qn_plain f hp.1, qn_plain g hp.2]
    · simp only [h, if_false, List.length_append, h1, h2]
      show _ = 2 * (f.qn + g.qn)
      simp only [Bool.false_eq_true, if_false, List.length_append, h1, h2]
      omega
  | .qt _ _ f, b, ν, n => by
    show (f.pull _ _ _).2.length + 1 = f.qn + 1
    rw [pull_len f]
theorem pulls_len : ∀ (fs : List Fm) (b : Bool) (ν : Str → Str) (n : Nat), (Fm.pulls fs b ν n).2.length = Fm.qns fs
  | [], _, _, _ => rfl
  | f :: fs, b, ν, n => by
    show ((f.pull b ν n).2 ++ (Fm.pulls fs b ν (n + (f.pull b ν n).2.length)).2).length = f.qn + Fm.qns fs
    rw [List.length_append, pull_len f, pulls_len fs]
end
/-- as the code goes: the same with the counts written out -/
theorem pull_sm0 {f g : Fm} (h : (f.plain && g.plain) = true) (b : Bool) (ν : Str → Str) (n : Nat) : (Fm.sm f g).pull b ν n = (.sm (f.pull b ν n).1 (g.pull b ν n).1, []) := by
  have hp : f.plain = true ∧ g.plain = true := by rw [← Bool.and_eq_true]; exact h
  have e1 : (f.pull b ν n).2 = [] := List.length_eq_zero_iff.mp (by rw [pull_len, qn_plain f hp.1])
  have e2 : (g.pull b ν n).2 = [] := List.length_eq_zero_iff.mp (by rw [pull_len, qn_plain g hp.2])
  simp only [Fm.pull, h, if_true, e1, List.length_nil, Nat.add_zero, e2, List.append_nil]
theorem pull_sm1 {f g : Fm} (h : (f.plain && g.plain) = false) (b : Bool) (ν : Str → Str) (n : Nat) : (Fm.sm f g).pull b ν n = (Fm.row false [.row true [f, g], .row true [.nt f, .nt g]]).pull b ν n := by
  conv => lhs; unfold Fm.pull
  simp only [h, Bool.false_eq_true, if_false]
  simp only [Fm.pull, Fm.pulls, List.append_nil, List.length_append, List.append_assoc, Nat.add_assoc]
mutual
theorem pull_nodes : ∀ (f : Fm) (b : Bool) (ν : Str → Str) (n : Nat), (f.pull b ν n).1.nodes = f.nn
  | .lt _, _, _, _ => rfl
  | .nt f, b, ν, n => congrArg (· + 1) (pull_nodes f (!b) ν n)
  | .row _ fs, b, ν, n => congrArg (· + 1) (pulls_nodes fs b ν n)
  | .sm f g, b, ν, n => by
    have h1 := pull_nodes f
    have h2 := pull_nodes g
    unfold Fm.pull
    show _ = if (f.plain && g.plain) = true then f.nn + g.nn + 1 else 2 * (f.nn + g.nn) + 5
    by_cases h : (f.plain && g.plain) = true
    · rw [if_pos h]
      simp only [h, if_true, Fm.nodes, h1, h2]
    · rw [if_neg h]
      simp only [h, Bool.false_eq_true, if_false, Fm.nodes, Fm.nodess, h1, h2]
      omega
  | .qt _ _ f, b, ν, n => pull_nodes f _ _ _
theorem pulls_nodes : ∀ (fs : List Fm) (b : Bool) (ν : Str → Str) (n : Nat), Fm.nodess (Fm.pulls fs b ν n).1 = Fm.nns fs
  | [], _, _, _ => rfl
  | f :: fs, b, ν, n => by
    show (f.pull b ν n).1.nodes + Fm.nodess (Fm.pulls fs b ν (n + (f.pull b ν n).2.length)).1 = f.nn + Fm.nns fs
    rw [pull_nodes f, pulls_nodes fs]
end
mutual
theorem pull_depth : ∀ (f : Fm) (b : Bool) (ν : Str → Str) (n : Nat), (f.pull b ν n).1.depth = f.dd
  | .lt _, _, _, _ => rfl
  | .nt f, b, ν, n => congrArg (· + 1) (pull_depth f (!b) ν n)
  | .row _ fs, b, ν, n => congrArg (· + 1) (pulls_depth fs b ν n)
  | .sm f g, b, ν, n => by
    have h1 := pull_depth f
    have h2 := pull_depth g
    unfold Fm.pull
    show _ = if (f.plain && g.plain) = true then max f.dd g.dd + 1 else max f.dd g.dd + 3
    by_cases h : (f.plain && g.plain) = true
    · rw [if_pos h]
      simp only [h, if_true, Fm.depth, h1, h2]
    · rw [if_neg h]
      simp only [h, Bool.false_eq_true, if_false, Fm.depth, Fm.depths, h1, h2]
      omega
  | .qt _ _ f, b, ν, n => pull_depth f _ _ _
theorem pulls_depth : ∀ (fs : List Fm) (b : Bool) (ν : Str → Str) (n : Nat), Fm.depths (Fm.pulls fs b ν n).1 = Fm.dds fs
  | [], _, _, _ => rfl
  | f :: fs, b, ν, n => by
    show max (f.pull b ν n).1.depth (Fm.depths (Fm.pulls fs b ν (n + (f.pull b ν n).2.length)).1) = max f.dd (Fm.dds fs)
    rw [pull_depth f, pulls_depth fs]
end
theorem fr_ok {n : Nat} (h : n < 200) : okName (fr n) = true := by
  have q : (List.range 200).all (fun n => okName (fr n)) = true := by decide +kernel
  exact List.all_eq_true.mp q n (List.mem_range.mpr h)
/-- the names ns are called by ν, all by plain names -/
def Nmd (ns : List Str) (ν : Str → Str) : Prop := ∀ x ∈ ns, okName (ν x) = true
theorem Nmd.set {ns : List Str} {ν : Str → Str} {x : Str} {n : Nat} (h : Nmd ns ν) (hn : n < 200) : Nmd (ns ++ [x]) (set1 ν x (fr n)) := fun y hy => by
  unfold set1
  by_cases e : y = x
  · rw [if_pos e]
    exact fr_ok hn
  · rw [if_neg e]
    rcases List.mem_append.mp hy with q | q
    · exact h y q
    · exact absurd (List.mem_singleton.mp q) e
mutual
theorem pull_named : ∀ (f : Fm) (ns : List Str) (b : Bool) (ν : Str → Str) (n : Nat), f.inn ns = true → Nmd ns ν → n + f.qn < 200 → (f.pull b ν n).1.named okName = true
  | .lt x, ns, _, ν, _, h, hv, _ => hv x (List.contains_iff_mem.mp h)
  | .nt f, ns, b, ν, n, h, hv, hn => pull_named f ns (!b) ν n h hv hn
  | .row _ fs, ns, b, ν, n, h, hv, hn => pulls_named fs ns b ν n h hv hn
  | .sm f g, ns, b, ν, n, h, hv, hn => by
    have h : f.inn ns = true ∧ g.inn ns = true := by rw [← Bool.and_eq_true]; exact h
    have hn : n + 2 * (f.qn + g.qn) < 200 := hn
    have k1 := fun b n hn => pull_named f ns b ν n h.1 hv hn
    have k2 := fun b n hn => pull_named g ns b ν n h.2 hv hn
    have l1 := pull_len f
    have l2 := pull_len g
    by_cases e : (f.plain && g.plain) = true
    · simp only [Fm.pull, e, if_true, Fm.named]
      rw [k1 b n (by omega), k2 _ _ (by rw [l1]; omega)]
      rfl
    · simp only [Fm.pull, e, Bool.false_eq_true, if_false, Fm.named, Fm.nameds]
      rw [k1 b n (by omega), k2 _ _ (by rw [l1]; omega), k1 _ _ (by rw [l1, l2]; omega), k2 _ _ (by rw [l1, l2, l1]; omega)]
      rfl
  | .qt _ x f, ns, b, ν, n, h, hv, hn => by
    have hn : n + (f.qn + 1) < 200 := hn
    exact pull_named f (ns ++ [x]) b _ (n + 1) h (hv.set (by omega)) (by omega)
theorem pulls_named : ∀ (fs : List Fm) (ns : List Str) (b : Bool) (ν : Str → Str) (n : Nat), Fm.inns ns fs = true → Nmd ns ν → n + Fm.qns fs < 200 → Fm.nameds okName (Fm.pulls fs b ν n).1 = true
  | [], _, _, _, _, _, _, _ => rfl
  | f :: fs, ns, b, ν, n, h, hv, hn => by
    have h : f.inn ns = true ∧ Fm.inns ns fs = true := by rw [← Bool.and_eq_true]; exact h
    have hn : n + (f.qn + Fm.qns fs) < 200 := hn
    show ((f.pull b ν n).1.named okName && Fm.nameds okName (Fm.pulls fs b ν (n + (f.pull b ν n).2.length)).1) = true
    rw [pull_named f ns b ν n h.1 hv (by omega), pulls_named fs ns b ν _ h.2 hv (by rw [pull_len]; omega)]
    rfl
end
/-- the quantifiers told, as data -/
def qsD : Nat → List Bool → List D
  | _, [] => []
  | n, b :: bs => .tup [.str (qd b), .str (fr (n + 1))] :: qsD (n + 1) bs
theorem qsD_len : ∀ (bs : List Bool) (n : Nat), (qsD n bs).length = bs.length
  | [], _ => rfl
  | b :: bs, n => congrArg (· + 1) (qsD_len bs (n + 1))
theorem qsD_app : ∀ (as bs : List Bool) (n : Nat), qsD n (as ++ bs) = qsD n as ++ qsD (n + as.length) bs
  | [], _, _ => rfl
  | a :: as, bs, n => by
    show _ :: qsD (n + 1) (as ++ bs) = _ :: (qsD (n + 1) as ++ qsD (n + (as.length + 1)) bs)
    rw [qsD_app as bs (n + 1), Nat.add_assoc n 1, Nat.add_comm 1]
def qsP : Nat → List Bool → List PyData
  | _, [] => []
  | n, b :: bs => .tuple [.str (qd b), .str (fr (n + 1))] :: qsP (n + 1) bs
theorem qs_py (ω : Store) : ∀ (bs : List Bool) (n : Nat), PyL ω (qsD n bs) (qsP n bs)
  | [], _ => .nil
  | b :: bs, n => .cons (.tup (.cons (.str _) (.cons (.str _) .nil))) (qs_py ω bs (n + 1))
theorem told_qs : ∀ (bs : List Bool) (n : Nat), n + bs.length < 199 → Tolds (qsP n bs) 2 (215 * bs.length)
  | [], _, _ => (Tolds.nil (n := 2))
  | b :: bs, n, h => by
    have h : n + (bs.length + 1) < 199 := h
    obtain ⟨h1, h2⟩ := okName_of (fr_ok (n := n + 1) (by omega))
    exact (Tolds.cons (Tolds.tup (.cons (told_str (qd_ok b).1 (qd_ok b).2) (.cons (told_str h2 h1) .nil))) (told_qs bs (n + 1) (by omega))).mono (Nat.le_refl _) (by show _ ≤ 215 * (bs.length + 1); omega)
/-! ### the dict of the names -/
/-- kvs tells what ν calls the names ns -/
def NmD (kvs : List (Key × D)) (ns : List Str) (ν : Str → Str) : Prop := (∀ x ∈ ns, valD kvs (.inr x) = some (.str (ν x))) ∧ kvs.length ≤ ns.length
theorem put_len {kvs : List (Key × D)} {k : Key} {d : D} : (putD kvs k d).length ≤ kvs.length + 1 := by
  unfold putD
  split
  · rw [List.length_map]; omega
  · rw [List.length_append]; exact Nat.le_refl _
theorem valD_put {kvs : List (Key × D)} {k j : Key} {d : D} : valD (putD kvs k d) j = if k = j then some d else valD kvs j := by
  unfold putD
  by_cases hk : (kvs.any fun p => decide (p.1 = k)) = true
  · rw [if_pos hk]
    induction kvs with
    | nil => cases hk
    | cons q r ih =>
      rw [List.map_cons]
      unfold valD at ih ⊢
      by_cases h1 : q.1 = k
      · rw [if_pos h1]
        by_cases h2 : k = j
        · rw [if_pos h2, List.find?_cons_of_pos (by simp only [h1, h2, decide_true])]
          rfl
        · rw [if_neg h2, List.find?_cons_of_neg (by simp only [h1, h2, decide_false, Bool.false_eq_true, not_false_eq_true]), List.find?_cons_of_neg (by simp only [h1, h2, decide_false, Bool.false_eq_true, not_false_eq_true])]
          by_cases h3 : (r.any fun p => decide (p.1 = k)) = true
          · rw [ih h3, if_neg h2]
          · have e : (r.map fun p => if p.1 = k then (p.1, d) else p) = r := by
              refine (List.map_congr_left fun p hp => ?_).trans (List.map_id _)
              rw [if_neg fun z => h3 (List.any_eq_true.mpr ⟨p, hp, decide_eq_true z⟩)]
              rfl
            rw [e]
      · rw [if_neg h1]
        have h3 : (r.any fun p => decide (p.1 = k)) = true := by
          rw [List.any_cons, Bool.or_eq_true] at hk
          exact hk.resolve_left fun z => h1 (of_decide_eq_true z)
        by_cases h4 : q.1 = j
        · have h2 : ¬ k = j := fun z => h1 (h4.trans z.symm)
          rw [if_neg h2, List.find?_cons_of_pos (by simp only [h4, decide_true]), List.find?_cons_of_pos (by simp only [h4, decide_true])]
        · rw [List.find?_cons_of_neg (by simp only [h4, decide_false, Bool.false_eq_true, not_false_eq_true]), List.find?_cons_of_neg (by simp only [h4, decide_false, Bool.false_eq_true, not_false_eq_true])]
          exact ih h3
  · rw [if_neg hk]
    unfold valD
    rw [List.find?_append]
    by_cases h2 : k = j
    · rw [if_pos h2]
      have e : (kvs.find? fun p => decide (p.1 = j)) = none := List.find?_eq_none.mpr fun p hp z => hk (List.any_eq_true.mpr ⟨p, hp, by rw [h2]; exact z⟩)
      rw [e]
      simp only [Option.none_or, List.find?, h2, decide_true, Option.map_some]
    · rw [if_neg h2]
      have e : ([(k, d)] : List (Key × D)).find? (fun p => decide (p.1 = j)) = none := by simp only [List.find?, h2, decide_false]
      rw [e, Option.or_none]
theorem NmD.put {kvs : List (Key × D)} {ns : List Str} {ν : Str → Str} {x v : Str} (h : NmD kvs ns ν) : NmD (putD kvs (.inr x) (.str v)) (ns ++ [x]) (set1 ν x v) := by
  refine ⟨fun y hy => ?_, by rw [List.length_append]; exact Nat.le_trans put_len (Nat.add_le_add_right h.2 1)⟩
  rw [valD_put]
  unfold set1
  by_cases e : x = y
  · rw [if_pos (by rw [e]), if_pos e.symm]
  · rw [if_neg (fun z => e (Sum.inr.inj z)), if_neg fun z => e z.symm]
    rcases List.mem_append.mp hy with q | q
    · exact h.1 y q
    · exact absurd (List.mem_singleton.mp q).symm e
end L3
/-! L3q: comprehensions whose turns change cells; a dict copied by its pairs. -/
namespace L3
open PySem L2 PySem.Spec PyProof.Rows
open PySem (PyData)
section
variable {X : Cx} {Y : Sg} {ρ : Rho} {ω ω' ω2 : Store} {x : KX} {k : KV} {L : LEnds} {t : LTE} {a : D} {i : Nat}
/-- what was there stays, but for the cells Ch -/
def Kc (Ch : Addr → Prop) (ω ω' : Store) : Prop := ∀ a, ¬ Ch a → ω a ≠ none → ω' a = ω a
theorem Kc.refl {Ch : Addr → Prop} : Kc Ch ω ω := fun _ _ _ => rfl
theorem Kc.tr {Ch : Addr → Prop} (h : Kc Ch ω ω') (h' : Kc Ch ω' ω2) : Kc Ch ω ω2 := fun a h1 h2 => (h' a h1 (by rw [h a h1 h2]; exact h2)).trans (h a h1 h2)
theorem Kc.new {Ch : Addr → Prop} {p : Addr} {c : Cell} (hp : ω p = none) : Kc Ch ω (sup ω p c) := fun a _ h2 => sup_ne fun e => h2 (by rw [e]; exact hp)
theorem Kc.put {Ch : Addr → Prop} {p : Addr} {c : Cell} (hp : Ch p) : Kc Ch ω (sup ω p c) := fun a h1 _ => sup_ne fun e => h1 (by rw [e]; exact hp)
/-- turns that draw on a state: J i acc tells it behind i turns that gave acc -/
theorem lc_stI {α : Type} {ti : LTI} {g : LTG} {te : LTE} {vs : List Nat} (l : List α) (e : α → D) (Ch : Addr → Prop) (J : Nat → List D → Store → Prop) (hz : l.length < 1000000) (hch : ∀ a, Ch a → ω a ≠ none)
    (hi : ∀ k0 : KI, (∀ stab : Store → Prop, (∀ ω', stab ω') → k0 (l.map e) stab ω) → ti ρ ω x k0) (h0 : J 0 [] ω) (hs : ∀ c v i acc ω', ω c = none → J i acc ω' → J i acc (sup ω' c v)) (hd : ∀ c i acc ω', ω c = none → J i acc ω' → J i acc (del ω' c))
    (ht : ∀ i a acc ω1 (k1 : KV), l[i]? = some a → acc.length = i → J i acc ω1 → (∀ d ω2, J (i + 1) (acc ++ [d]) ω2 → Kc Ch ω1 ω2 → k1 d ω2) → g (e a) (wipeD ρ vs) ω1 X0 fun ρ2 ω2 => te ρ2 ω2 X0 k1)
    (q : ∀ acc ω', acc.length = l.length → J l.length acc ω' → k (.lst acc) ω') : dLc ti g dYes te vs ρ ω x k := by
  refine hi _ fun stab st c hc => ?_
  have nc : ¬ Ch c := fun z => hch c z hc
  refine ⟨fun i ω' => ∃ acc, ω' c = some (.lst acc) ∧ acc.length = i ∧ J i acc ω', ⟨[], sup_same, rfl, hs c _ 0 [] ω hc h0⟩, fun _ _ _ => st _, fun i d ω1 hd1 ⟨acc, a1, a2, a3⟩ => ?_, fun ω1 ⟨acc, a1, a2, a3⟩ => ?_⟩
  · rw [List.getElem?_map] at hd1
    cases ha : l[i]? with
    | none =>
      rw [ha] at hd1
      cases hd1
    | some a =>
      rw [ha] at hd1
      cases hd1
      have hi2 := (List.getElem?_eq_some_iff.mp ha).1
      refine ht i a acc ω1 _ ha a2 a3 fun d ω2 j kc => ?_
      have e2 : ω2 c = some (.lst acc) := (kc c nc (by rw [a1]; exact Option.some_ne_none _)).trans a1
      exact ⟨acc, e2, by rw [a2]; exact small_lt (by omega), acc ++ [d], sup_same, by rw [List.length_append, a2]; rfl, hs c _ _ _ ω2 hc j⟩
  · rw [List.length_map] at a2 a3
    exact .inr ⟨acc, a1, q acc _ a2 (hd c _ _ ω1 hc a3)⟩
theorem lc_stT {α : Type} {g : LTG} {te : LTE} {vs : List Nat} (l : List α) (e : α → D) (Ch : Addr → Prop) (J : Nat → List D → Store → Prop) (hz : l.length < 1000000) (hch : ∀ a, Ch a → ω a ≠ none)
    (hi : ∀ k0 : KV, (∀ d, (d = .lst (l.map e) ∨ d = .sq (l.map e) ∨ d = .tup (l.map e)) → k0 d ω) → t ρ ω x k0) (h0 : J 0 [] ω) (hs : ∀ c v i acc ω', ω c = none → J i acc ω' → J i acc (sup ω' c v)) (hd : ∀ c i acc ω', ω c = none → J i acc ω' → J i acc (del ω' c))
    (ht : ∀ i a acc ω1 (k1 : KV), l[i]? = some a → acc.length = i → J i acc ω1 → (∀ d ω2, J (i + 1) (acc ++ [d]) ω2 → Kc Ch ω1 ω2 → k1 d ω2) → g (e a) (wipeD ρ vs) ω1 X0 fun ρ2 ω2 => te ρ2 ω2 X0 k1)
    (q : ∀ acc ω', acc.length = l.length → J l.length acc ω' → k (.lst acc) ω') : dLc (diSeq t) g dYes te vs ρ ω x k :=
  lc_stI l e Ch J hz hch (fun k0 h => hi _ fun d hd => by
    rcases hd with e1 | e1 | e1 <;> subst e1
    · exact ⟨_, .inl ⟨.fr _, h _ fun _ => SqOf.fr _⟩⟩
    · exact ⟨_, .inl ⟨.sq _, h _ fun _ => SqOf.sq _⟩⟩
    · exact ⟨_, .inr ⟨rfl, h _ fun _ => trivial⟩⟩) h0 hs hd ht q
/-- turns that change nothing, but read what W tells of the store -/
theorem lc_mapW {α : Type} {ti : LTI} {g : LTG} {te : LTE} {vs : List Nat} (W : Store → Prop) (l : List α) (e f : α → D) (hz : l.length < 1000000) (w0 : W ω) (wn : ∀ p ds, ω p = none → W (sup ω p (.lst ds)))
    (hi : ∀ k0 : KI, (∀ stab : Store → Prop, (∀ ω', W ω' → stab ω') → k0 (l.map e) stab ω) → ti ρ ω x k0)
    (hg : ∀ a ∈ l, ∀ (ω' : Store) (k1 : KV), W ω' → k1 (f a) ω' → g (e a) (wipeD ρ vs) ω' X0 fun ρ2 ω2 => te ρ2 ω2 X0 k1) (q : k (.lst (l.map f)) ω) : dLc ti g dYes te vs ρ ω x k := by
  refine hi _ fun stab st p hp => ?_
  have len : ∀ i, ((l.take i).map f).length ≤ l.length := fun i => by
    rw [List.length_map, List.length_take]
    omega
  refine ⟨fun i ω' => ω' = sup ω p (.lst ((l.take i).map f)), by simp, fun i ω' e => st _ (e ▸ wn p _ hp), fun i d ω' hd e => ?_, fun ω' e => ?_⟩
  · subst e
    rw [List.getElem?_map] at hd
    cases ha : l[i]? with
    | none =>
      rw [ha] at hd
      cases hd
    | some a =>
      rw [ha] at hd
      cases hd
      refine hg a (List.mem_of_getElem? ha) _ _ (wn p _ hp) ⟨_, sup_same, Nat.lt_of_le_of_lt (len i) (small_lt hz), ?_⟩
      show sup (sup ω p _) p _ = sup ω p (.lst ((l.take (i + 1)).map f))
      rw [sup_sup, List.take_add_one, ha, List.map_append] <;> rfl
  · rw [List.length_map, List.take_length] at e
    subst e
    refine .inr ⟨_, sup_same, ?_⟩
    rw [del_sup hp]
    exact q
/-- no key twice -/
def KNd (kvs : List (Key × D)) : Prop := (kvs.map (·.1)).Nodup
theorem KNd.nil : KNd [] := List.nodup_nil
theorem KNd.put {kvs : List (Key × D)} {k : Key} {d : D} (h : KNd kvs) : KNd (putD kvs k d) := by
  unfold putD KNd
  by_cases hk : (kvs.any fun p => decide (p.1 = k)) = true
  · rw [if_pos hk]
    have e : (kvs.map fun p => if p.1 = k then (p.1, d) else p).map (·.1) = kvs.map (·.1) := by
      rw [List.map_map]
      refine List.map_congr_left fun p _ => ?_
      show (if p.1 = k then (p.1, d) else p).1 = p.1
      split <;> rfl
    rw [e]
    exact h
  · rw [if_neg hk, List.map_append]
    refine List.nodup_append.mpr ⟨h, List.nodup_cons.mpr ⟨by simp, List.nodup_nil⟩, fun a ha b hb e => ?_⟩
    obtain ⟨p, hp, rfl⟩ := List.mem_map.mp ha
    obtain rfl := List.mem_singleton.mp hb
    exact hk (List.any_eq_true.mpr ⟨p, hp, decide_eq_true e⟩)
theorem valD_mem : ∀ {kvs : List (Key × D)} {q : Key × D}, KNd kvs → q ∈ kvs → valD kvs q.1 = some q.2
  | p :: kvs, q, h, hq => by
    have h : p.1 ∉ kvs.map (·.1) ∧ KNd kvs := List.nodup_cons.mp h
    unfold valD
    rcases List.mem_cons.mp hq with e | e
    · subst e
      rw [List.find?_cons_of_pos (by exact decide_eq_true rfl)]
      rfl
    · have ne : p.1 ≠ q.1 := fun z => h.1 (z ▸ List.mem_map.mpr ⟨q, e, rfl⟩)
      rw [List.find?_cons_of_neg (by simp only [ne, decide_false, Bool.false_eq_true, not_false_eq_true])]
      exact valD_mem h.2 e
theorem merge_self {kvs : List (Key × D)} (h : KNd kvs) : mergeD kvs = kvs := by
  unfold mergeD
  have key : ∀ (r acc : List (Key × D)), KNd (acc ++ r) → r.foldl (fun acc p => putD acc p.1 p.2) acc = acc ++ r := by
    intro r
    induction r with
    | nil =>
      intro acc _
      rw [List.append_nil]
      rfl
    | cons p r ih =>
      intro acc hn
      have h2 : (acc.any fun q => decide (q.1 = p.1)) = false := by
        refine Bool.eq_false_iff.mpr fun z => ?_
        obtain ⟨q, hq, e⟩ := List.any_eq_true.mp z
        unfold KNd at hn
        rw [List.map_append] at hn
        exact (List.nodup_append.mp hn).2.2 _ (List.mem_map.mpr ⟨q, hq, rfl⟩) _ (List.mem_map.mpr ⟨p, List.mem_cons_self .., rfl⟩) (of_decide_eq_true e)
      have e : putD acc p.1 p.2 = acc ++ [p] := by
        unfold putD
        rw [if_neg (by rw [h2]; exact Bool.false_ne_true)]
      rw [List.foldl_cons, e, ih _ (by rw [List.append_assoc]; exact hn), List.append_assoc]
      rfl
  exact key kvs [] h
/-- dict([(n, d[n]) for n in d]) -/
theorem dcopy {i j : Nat} {p : Addr} {kvs : List (Key × D)} (hi : (wipeD ρ [j])[i]? = some (some (.ptr p))) (hi0 : ρ[i]? = some (some (.ptr p))) (hij : i ≠ j) (hj : j < (wipeD ρ [j]).length) (hp : ω p = some (.dK kvs)) (hn : KNd kvs) (hz : kvs.length < 1000000) (q : ∀ q, ω q = none → k (.ptr q) (sup ω q (.dK kvs))) :
    dCB sDictP (dCons (dLockE (dLc (diKeys (dVar i)) (gdName j) dYes (dTup (dCons (dVar j) (dCons (dOp (sIx Y) (dVar i) (dVar j)) dNil))) [j])) dNil) ρ ω x k := by
  refine gCB (gCons ⟨p, kvs, hp, fun u => ?_⟩)
  have back : sup (sup ω p (.dL u kvs)) p (.dK kvs) = ω := by
    funext a
    by_cases e : a = p
    · rw [e, sup_same, hp]
    · rw [sup_ne e, sup_ne e]
  refine lc_mapW (fun ω' => ω' p = some (.dL u kvs)) kvs (fun q => kD q.1) (fun q => .tup [kD q.1, q.2]) hz sup_same (fun r ds hr => ?_) (fun k0 h => gVar hi0 ⟨p, u, kvs, rfl, sup_same, h _ fun _ z => z⟩) (fun b hb ω' k1 w1 q1 => ?_) ⟨sup_same, ?_⟩
  · have e : p ≠ r := fun z => by rw [← z, sup_same] at hr; cases hr
    rw [sup_ne e, sup_same]
  · refine gName (gTup (gCons (gVar (i := j) (a := kD b.1) (by rw [List.getElem?_set_self hj]) (gCons (gOp (gVar (i := i) (a := .ptr p) (by rw [List.getElem?_set_ne hij.symm]; exact hi) (gVar (i := j) (a := kD b.1) (by rw [List.getElem?_set_self hj]) ?_)))))))
    exact .inr (.inr (.inr (.inl ⟨p, kvs, b.1, b.2, rfl, .inr ⟨u, w1⟩, rfl, valD_mem hn hb, gNil (gTu (small_le (by show 2 ≤ _; omega)) q1)⟩)))
  · rw [back]
    refine gNil ⟨_, kvs, rfl, .fr _, fun q2 hq2 => ?_⟩
    rw [merge_self hn]
    exact q q2 hq2
theorem log_less {m : Int} (h : m.natAbs ≤ 1000000) : m.natAbs.log2 < 1920 := by
  by_cases h0 : m.natAbs = 0
  · rw [h0]; decide +kernel
  · exact Nat.lt_of_lt_of_le ((Nat.log2_lt h0).mpr (Nat.lt_of_le_of_lt h (show 1000000 < 2 ^ 20 by decide))) (by omega)
theorem vStr {m : Int} (h : m.natAbs ≤ 1000000) (q : k (.str (toString m)) ω) : sStrI [.int m] ω x k := ⟨m, rfl, log_less h, q⟩
theorem vNeT0 (q : k (.bl false) ω) : sNe (.tup []) (.tup []) ω x k :=
  vNeD (.tup .nil) (.tup .nil) (by simp [PyData.canLay0, PyData.canLayAll0]) (by simp [PyData.canLay0, PyData.canLayAll0]) (by simp [PyData.depth, PyData.depthAll]) (by
    have e : PyData.eqv (.tuple []) (.tuple []) = true := by simp [PyData.eqv, PyData.eqvAll]
    rw [e]
    exact q)
theorem inF_strs (y : Str) : ∀ ns : List Str, inF (.str y) (ns.map D.str) = ns.contains y
  | [] => rfl
  | n :: ns => by
    have e : inF (.str y) (D.str n :: ns.map D.str) = (eqF (.str n) (.str y) || inF (.str y) (ns.map D.str)) := rfl
    rw [List.map_cons, e, inF_strs y ns, List.contains_cons]
    congr 1
    show decide (n = y) = (y == n)
    by_cases h : n = y
    · rw [h]
      simp
    · rw [decide_eq_false h]
      exact (beq_eq_false_iff_ne.mpr fun z => h z.symm).symm
theorem flat_strs (ns : List Str) : ∀ d ∈ ns.map D.str, Flat d := fun d hd => by
  obtain ⟨s, _, rfl⟩ := List.mem_map.mp hd
  exact .str s
theorem vExtF {p : Addr} {es fs : List D} (h : ω p = some (.lst es)) (hz : es.length + fs.length ≤ 1000000) (q : k .non (sup ω p (.lst (es ++ fs)))) : sExtend (.ptr p) [.lst fs] ω x k := ⟨p, es, .lst fs, fs, rfl, rfl, h, .fr fs, small_le hz, q⟩
end
/-! ### widths -/
mutual
def Fm.wid : Fm → Nat
  | .lt _ => 0
  | .nt f => f.wid
  | .row _ fs => max fs.length (Fm.wids fs)
  | .sm f g => max f.wid g.wid
  | .qt _ _ f => f.wid
def Fm.wids : List Fm → Nat
  | [] => 0
  | f :: fs => max f.wid (Fm.wids fs)
end
mutual
/-- calls that lie within one another when quantifiers are put ahead -/
def Fm.mu : Fm → Nat
  | .lt _ => 1
  | .nt f => f.mu + 1
  | .row _ fs => Fm.mus fs + 1
  | .sm f g => max f.mu g.mu + 4
  | .qt _ _ f => f.mu + 1
def Fm.mus : List Fm → Nat
  | [] => 0
  | f :: fs => max f.mu (Fm.mus fs)
end
theorem wid_mem : ∀ {fs : List Fm} {f : Fm}, f ∈ fs → f.wid ≤ Fm.wids fs
  | g :: fs, f, h => by
    show f.wid ≤ max g.wid (Fm.wids fs)
    rcases List.mem_cons.mp h with e | e
    · subst e
      omega
    · have := wid_mem e
      omega
theorem mu_mem : ∀ {fs : List Fm} {f : Fm}, f ∈ fs → f.mu ≤ Fm.mus fs
  | g :: fs, f, h => by
    show f.mu ≤ max g.mu (Fm.mus fs)
    rcases List.mem_cons.mp h with e | e
    · subst e
      omega
    · have := mu_mem e
      omega
theorem part_wid {f g : Fm} (h : g ∈ f.parts) : g.wid ≤ f.wid := by
  cases f with
  | lt x => cases h
  | nt f => rw [List.mem_singleton.mp h]; exact Nat.le_refl _
  | row b fs => have := wid_mem (show g ∈ fs from h); show _ ≤ max fs.length (Fm.wids fs); omega
  | sm a b =>
    show _ ≤ max a.wid b.wid
    rcases List.mem_cons.mp h with e | e
    · subst e
      omega
    · obtain rfl := List.mem_singleton.mp e
      omega
  | qt b x f => rw [List.mem_singleton.mp h]; exact Nat.le_refl _
theorem part_mu {f g : Fm} (h : g ∈ f.parts) : g.mu < f.mu := by
  cases f with
  | lt x => cases h
  | nt f => rw [List.mem_singleton.mp h]; exact Nat.lt_succ_self _
  | row b fs => have := mu_mem (show g ∈ fs from h); show _ < Fm.mus fs + 1; omega
  | sm a b =>
    show _ < max a.mu b.mu + 4
    rcases List.mem_cons.mp h with e | e
    · subst e
      omega
    · obtain rfl := List.mem_singleton.mp e
      omega
  | qt b x f => rw [List.mem_singleton.mp h]; exact Nat.lt_succ_self _
theorem parts_wid (f : Fm) : f.parts.length ≤ max 2 f.wid := by
  cases f with
  | lt x => exact Nat.zero_le _
  | nt f => show 1 ≤ _; omega
  | row b fs => show fs.length ≤ max 2 (max fs.length (Fm.wids fs)); omega
  | sm a b => show 2 ≤ _; omega
  | qt b x f => show 1 ≤ _; omega
mutual
theorem wid_nodes : ∀ f : Fm, f.wid ≤ f.nodes
  | .lt _ => Nat.zero_le _
  | .nt f => Nat.le_succ_of_le (wid_nodes f)
  | .row _ fs => by
    have := wids_nodes fs
    have := len_nodess fs
    show max fs.length (Fm.wids fs) ≤ Fm.nodess fs + 1
    omega
  | .sm f g => by
    have := wid_nodes f
    have := wid_nodes g
    show max f.wid g.wid ≤ f.nodes + g.nodes + 1
    omega
  | .qt _ _ f => Nat.le_succ_of_le (wid_nodes f)
theorem wids_nodes : ∀ fs : List Fm, Fm.wids fs ≤ Fm.nodess fs
  | [] => Nat.le_refl _
  | f :: fs => by
    have := wid_nodes f
    have := wids_nodes fs
    show max f.wid (Fm.wids fs) ≤ f.nodes + Fm.nodess fs
    omega
end
mutual
theorem mu_depth : ∀ f : Fm, f.mu ≤ 4 * f.depth
  | .lt _ => by show 1 ≤ 4 * 1; omega
  | .nt f => by have := mu_depth f; show f.mu + 1 ≤ 4 * (f.depth + 1); omega
  | .row _ fs => by have := mus_depth fs; show Fm.mus fs + 1 ≤ 4 * (Fm.depths fs + 1); omega
  | .sm f g => by have := mu_depth f; have := mu_depth g; show max f.mu g.mu + 4 ≤ 4 * (max f.depth g.depth + 1); omega
  | .qt _ _ f => by have := mu_depth f; show f.mu + 1 ≤ 4 * (f.depth + 1); omega
theorem mus_depth : ∀ fs : List Fm, Fm.mus fs ≤ 4 * Fm.depths fs
  | [] => Nat.le_refl _
  | f :: fs => by
    have := mu_depth f
    have := mus_depth fs
    show max f.mu (Fm.mus fs) ≤ 4 * max f.depth (Fm.depths fs)
    omega
end
mutual
theorem depth_mu : ∀ f : Fm, f.depth ≤ f.mu
  | .lt _ => Nat.le_refl _
  | .nt f => by have := depth_mu f; show f.depth + 1 ≤ f.mu + 1; omega
  | .row _ fs => by have := depths_mu fs; show Fm.depths fs + 1 ≤ Fm.mus fs + 1; omega
  | .sm f g => by have := depth_mu f; have := depth_mu g; show max f.depth g.depth + 1 ≤ max f.mu g.mu + 4; omega
  | .qt _ _ f => by have := depth_mu f; show f.depth + 1 ≤ f.mu + 1; omega
theorem depths_mu : ∀ fs : List Fm, Fm.depths fs ≤ Fm.mus fs
  | [] => Nat.le_refl _
  | f :: fs => by
    have := depth_mu f
    have := depths_mu fs
    show max f.depth (Fm.depths fs) ≤ max f.mu (Fm.mus fs)
    omega
end
theorem part_inn {ns : List Str} {f g : Fm} (hq : ∀ b x h, f ≠ .qt b x h) (hf : f.inn ns = true) (h : g ∈ f.parts) : g.inn ns = true := by
  have mem : ∀ {fs : List Fm} {g : Fm}, Fm.inns ns fs = true → g ∈ fs → g.inn ns = true := by
    intro fs
    induction fs with
    | nil => intro g _ h; cases h
    | cons a fs ih =>
      intro g hp h
      have hp : a.inn ns = true ∧ Fm.inns ns fs = true := by rw [← Bool.and_eq_true]; exact hp
      rcases List.mem_cons.mp h with e | e
      · rw [e]; exact hp.1
      · exact ih hp.2 e
  cases f with
  | lt x => cases h
  | nt f => rw [List.mem_singleton.mp h]; exact hf
  | row b fs => exact mem hf h
  | sm a b =>
    have hf : a.inn ns = true ∧ b.inn ns = true := by rw [← Bool.and_eq_true]; exact hf
    rcases List.mem_cons.mp h with e | e
    · rw [e]; exact hf.1
    · rw [List.mem_singleton.mp e]; exact hf.2
  | qt b x f => exact absurd rfl (hq b x f)
end L3
/-! L3r: comprehensions with a test. -/
namespace L3
open PySem L2 PySem.Spec PyProof.Rows
open PySem (PyData)
def Fm.isRow : Fm → Bool
  | .row _ _ => true
  | _ => false
section
variable {ρ : Rho} {ω : Store} {x : KX} {k : KV} {t : LTE}
theorem lc_filtI {α : Type} {ti : LTI} {g : LTG} {tt : LTT} {te : LTE} {vs : List Nat} (l : List α) (e : α → D) (p : α → Bool) (f : α → D) (hi : ∀ k0 : KI, (∀ stab : Store → Prop, stab ω → (∀ p ds, ω p = none → stab (sup ω p (.lst ds))) → k0 (l.map e) stab ω) → ti ρ ω x k0) (hz : l.length < sizeLine)
    (hg : ∀ a ∈ l, ∀ (ω' : Store) (k1 : Rho → Bool → Store → Prop), (∀ ρ2, (p a = true → ∀ k2 : KV, k2 (f a) ω' → te ρ2 ω' X0 k2) → k1 ρ2 (p a) ω') → g (e a) (wipeD ρ vs) ω' X0 fun ρ2 ω2 => tt ρ2 ω2 X0 (k1 ρ2)) (q : k (.lst ((l.filter p).map f)) ω) : dLc ti g tt te vs ρ ω x k := by
  refine hi _ fun stab st st2 c hc => ?_
  have len : ∀ i, (((l.take i).filter p).map f).length ≤ l.length := fun i => by
    rw [List.length_map]
    exact Nat.le_trans (List.length_filter_le _ _) (by rw [List.length_take]; omega)
  refine ⟨fun i ω' => ω' = sup ω c (.lst (((l.take i).filter p).map f)), by simp, fun i ω' e => e ▸ st2 c _ hc, fun i d ω' hd e => ?_, fun ω' e => ?_⟩
  · subst e
    rw [List.getElem?_map] at hd
    cases ha : l[i]? with
    | none =>
      rw [ha] at hd
      cases hd
    | some a =>
      rw [ha] at hd
      cases hd
      have et : l.take (i + 1) = l.take i ++ [a] := by rw [List.take_add_one, ha]; rfl
      refine hg a (List.mem_of_getElem? ha) _ (fun ρ2 b ω3 => if b = true then te ρ2 ω3 X0 fun e ω4 => ∃ acc, ω4 c = some (.lst acc) ∧ acc.length < sizeLine ∧ sup ω4 c (.lst (acc ++ [e])) = sup ω c (.lst (((l.take (i + 1)).filter p).map f)) else ω3 = sup ω c (.lst (((l.take (i + 1)).filter p).map f))) fun ρ2 hk => ?_
      cases hp : p a with
      | true =>
        refine hk hp _ ⟨_, sup_same, Nat.lt_of_le_of_lt (len i) hz, ?_⟩
        rw [sup_sup, et, List.filter_append, List.map_append, List.filter_cons_of_pos (by rw [hp])]
        rfl
      | false =>
        show sup ω c _ = _
        rw [et, List.filter_append, List.filter_cons_of_neg (by rw [hp]; exact Bool.false_ne_true), List.filter_nil, List.append_nil]
  · rw [List.length_map, List.take_length] at e
    subst e
    refine .inr ⟨_, sup_same, ?_⟩
    rw [del_sup hc]
    exact q
theorem lc_filt {α : Type} {g : LTG} {tt : LTT} {te : LTE} {vs : List Nat} (l : List α) (e : α → D) (p : α → Bool) (f : α → D) (hi : ∀ k0 : KV, (∀ d, (d = .lst (l.map e) ∨ d = .sq (l.map e) ∨ d = .tup (l.map e)) → k0 d ω) → t ρ ω x k0) (hz : l.length < sizeLine)
    (hg : ∀ a ∈ l, ∀ (ω' : Store) (k1 : Rho → Bool → Store → Prop), (∀ ρ2, (p a = true → ∀ k2 : KV, k2 (f a) ω' → te ρ2 ω' X0 k2) → k1 ρ2 (p a) ω') → g (e a) (wipeD ρ vs) ω' X0 fun ρ2 ω2 => tt ρ2 ω2 X0 (k1 ρ2)) (q : k (.lst ((l.filter p).map f)) ω) : dLc (diSeq t) g tt te vs ρ ω x k :=
  lc_filtI l e p f (fun k0 h => hi _ fun d hd => iter_fr h hd) hz hg q
end
end L3
namespace L3
open PySem L2 PySem.Spec PyProof.Rows
open PySem (PyData)
local macro_rules | `(tactic| walk_at "g1") => `(tactic| with_reducible first
  | refine gSeq ?_ | refine gIfS ?_ | refine gTest ?_ | refine gOp ?_ | refine gCons ?_ | refine gNil ?_ | refine gC ?_ | refine gCB ?_ | refine gAsgNew ?_ | refine gAsg ?_ | refine gRet ?_ | refine gTup ?_ | refine gLst ?_
  | refine gBl ?_ | refine gName ?_ | refine gNot ?_ | refine gAndV ?_ | refine gOrV ?_ | refine gNotV ?_ | refine gIf ?_ | refine gTru ?_ | refine gTrB ?_ | refine gTrT ?_ | refine gTrL ?_ | refine gUn ?_ | refine gDrop ?_ | refine gNext ?_ | refine gSub ?_ | refine gSl ?_ | refine gPart ?_ | refine gPa ?_ | refine gNoP ?_ | refine gPar ?_ | refine gPar3 ?_ | refine gPar32 ?_ | refine gRev ?_ | refine gRvF ?_ | refine gPar2 ?_ | refine gNx ?_ | refine gRtS ?_ | refine gCtS ?_ | refine gBkS ?_ | refine gNxL ?_ | refine gCtL ?_ | refine gBkL ?_ | refine gRtL ?_ | refine gRtU ?_ | refine gNxU ?_ | refine gFor ?_ | refine gForC ?_ | refine gForN ?_ | refine gBM ?_ | refine gBM0 ?_ | refine gCallK ?_
  | refine gdConsI ?_ | refine gdNilI ?_ | refine vEqS ?_ | refine vEqI ?_ | refine vEqB ?_ | refine vNeS ?_ | refine vNeI ?_ | refine vNeB ?_ | refine vAddI ?_ | refine vSub ?_ | refine vNeg ?_ | refine vLt ?_ | refine vLe ?_ | refine vGt ?_ | refine vGe ?_ | refine vMax2 ?_ | refine vMin2 ?_ | refine vAbs ?_ | refine vIntI ?_ | refine vIntB ?_ | refine vLenF ?_ | refine vLenQ ?_ | refine vLenT ?_ | refine vSumF ?_ | refine vAnyF ?_ | refine vAllF ?_ | refine vTupF ?_ | refine vTupT ?_ | refine vSlT1 ?_ | refine vSlT2 ?_)
local macro_rules | `(tactic| walk_at "g0") => `(tactic| first
  | walk_at "g1"
  | ((with_reducible apply gVar); (exact rfl))
  | ((with_reducible apply vIxT); (exact rfl))
  | ((with_reducible apply vIxF); (exact rfl))
  | ((with_reducible refine vInTb ?_ ?_ ?_); (exact rfl); (exact rfl))
  | ((with_reducible refine vNinTb ?_ ?_ ?_); (exact rfl); (exact rfl))
  | ((with_reducible refine vInLb ?_ ?_ ?_); (exact rfl); (exact rfl))
  | ((with_reducible refine vNinLb ?_ ?_ ?_); (exact rfl); (exact rfl))
  | ((with_reducible refine gdTupT ?_ ?_); (exact rfl))
  | ((with_reducible refine gdTupL ?_ ?_); (exact rfl))
  | ((with_reducible refine gTu ?_ ?_); (exact small_le (by simp)))
  | ((with_reducible refine gIt ?_ ?_); (first | exact rfl | exact decide_eq_true rfl | decide +kernel))
  | ((with_reducible refine gIff ?_ ?_); (first | exact rfl | decide +kernel)))
local macro_rules | `(tactic| walk_at "gq") => `(tactic| first
  | walk_at "g0"
  | ((with_reducible refine gLs ?_ ?_); (exact small_le (by simp))))
local macro_rules | `(tactic| walk_at "g2") => `(tactic| first
  | walk_at "gq"
  | with_reducible refine gAnd ?_
  | with_reducible refine gOr ?_)
local macro_rules | `(tactic| walk_at "go") => `(tactic| repeat walk_at "g2")
local macro_rules | `(tactic| walk_at "gp") => `(tactic| repeat walk_at "gq")
local macro_rules | `(tactic| walk_at "gn") => `(tactic| repeat (first | walk_at "g0" | with_reducible refine gAnd ?_ | with_reducible refine gOr ?_))

def topS (i : Nat) : Stmt := PySem.Challenge.pw_eachsome_k67_whole_quantifiers_put_ahead.main.body.getD i (.Pass ⟨0, 0, 0, 0⟩)
abbrev s_parts_of : Stmt := topS 10
theorem sc_parts_of : FnScope ["formula"] ["formula"] (defScope s_parts_of) := ⟨rfl, rfl, rfl, by decide +kernel, rfl, by decide +kernel, by decide +kernel⟩
abbrev s_with_parts : Stmt := topS 11
theorem sc_with_parts : FnScope ["formula", "parts"] ["formula", "parts"] (defScope s_with_parts) := ⟨rfl, rfl, rfl, by decide +kernel, rfl, by decide +kernel, by decide +kernel⟩
abbrev s_free_in : Stmt := topS 12
theorem sc_free_in : FnScope ["formula", "bound", "inner", "found", "part"] ["formula", "bound"] (defScope s_free_in) := ⟨rfl, rfl, rfl, by decide +kernel, rfl, by decide +kernel, by decide +kernel⟩
abbrev s_free_names : Stmt := topS 13
theorem sc_free_names : FnScope ["formula"] ["formula"] (defScope s_free_names) := ⟨rfl, rfl, rfl, by decide +kernel, rfl, by decide +kernel, by decide +kernel⟩
abbrev s_pulled_sizes : Stmt := topS 16
theorem sc_pulled_sizes : FnScope ["formula", "binders", "nodes", "depth", "part", "inner"] ["formula"] (defScope s_pulled_sizes) := ⟨rfl, rfl, rfl, by decide +kernel, rfl, by decide +kernel, by decide +kernel⟩
abbrev s_has_binder : Stmt := topS 17
theorem sc_has_binder : FnScope ["formula", "part"] ["formula"] (defScope s_has_binder) := ⟨rfl, rfl, rfl, by decide +kernel, rfl, by decide +kernel, by decide +kernel⟩
abbrev s_spread_same : Stmt := topS 18
theorem sc_spread_same : FnScope ["formula", "one", "other"] ["formula"] (defScope s_spread_same) := ⟨rfl, rfl, rfl, by decide +kernel, rfl, by decide +kernel, by decide +kernel⟩
abbrev s_pulled : Stmt := topS 19
theorem sc_pulled : FnScope ["formula", "is_yes", "names", "quantifiers", "part", "fresh", "inner"] ["formula", "is_yes", "names", "quantifiers"] (defScope s_pulled) := ⟨rfl, rfl, rfl, by decide +kernel, rfl, by decide +kernel, by decide +kernel⟩
abbrev s_prenex : Stmt := topS 20
theorem sc_prenex : FnScope ["formula", "size", "limit", "quantifiers", "matrix"] ["formula"] (defScope s_prenex) := ⟨rfl, rfl, rfl, by decide +kernel, rfl, by decide +kernel, by decide +kernel⟩
abbrev s__law_bag : Stmt := topS 22
theorem sc__law_bag : FnScope ["script", "bag", "cell", "own"] ["script"] (defScope s__law_bag) := ⟨rfl, rfl, rfl, by decide +kernel, rfl, by decide +kernel, by decide +kernel⟩
abbrev s__law_take : Stmt := topS 23
theorem sc__law_take : FnScope ["bag", "many", "whole", "seed"] ["bag", "many"] (defScope s__law_take) := ⟨rfl, rfl, rfl, by decide +kernel, rfl, by decide +kernel, by decide +kernel⟩
abbrev s__law_pick : Stmt := topS 24
theorem sc__law_pick : FnScope ["bag", "some"] ["bag", "some"] (defScope s__law_pick) := ⟨rfl, rfl, rfl, by decide +kernel, rfl, by decide +kernel, by decide +kernel⟩
abbrev s__law_parts_of : Stmt := topS 25
theorem sc__law_parts_of : FnScope ["f"] ["f"] (defScope s__law_parts_of) := ⟨rfl, rfl, rfl, by decide +kernel, rfl, by decide +kernel, by decide +kernel⟩
abbrev s__law_remade : Stmt := topS 26
theorem sc__law_remade : FnScope ["f", "parts"] ["f", "parts"] (defScope s__law_remade) := ⟨rfl, rfl, rfl, by decide +kernel, rfl, by decide +kernel, by decide +kernel⟩
abbrev s__law_formula : Stmt := topS 27
theorem sc__law_formula : FnScope ["bag", "names", "size", "more", "way", "name", "half", "many", "parts", "turn"] ["bag", "names", "size", "more"] (defScope s__law_formula) := ⟨rfl, rfl, rfl, by decide +kernel, rfl, by decide +kernel, by decide +kernel⟩
abbrev s__law_has_each : Stmt := topS 28
theorem sc__law_has_each : FnScope ["f", "own"] ["f"] (defScope s__law_has_each) := ⟨rfl, rfl, rfl, by decide +kernel, rfl, by decide +kernel, by decide +kernel⟩
abbrev s__law_put_ahead : Stmt := topS 29
theorem sc__law_put_ahead : FnScope ["f", "side", "names", "found", "word", "fresh", "inner", "name", "other", "both", "own"] ["f", "side", "names", "found"] (defScope s__law_put_ahead) := ⟨rfl, rfl, rfl, by decide +kernel, rfl, by decide +kernel, by decide +kernel⟩
abbrev s__law_prenexed : Stmt := topS 30
theorem sc__law_prenexed : FnScope ["f", "found", "matrix"] ["f"] (defScope s__law_prenexed) := ⟨rfl, rfl, rfl, by decide +kernel, rfl, by decide +kernel, by decide +kernel⟩
abbrev s__law_sizes : Stmt := topS 31
theorem sc__law_sizes : FnScope ["f", "told", "own", "many", "k"] ["f"] (defScope s__law_sizes) := ⟨rfl, rfl, rfl, by decide +kernel, rfl, by decide +kernel, by decide +kernel⟩
abbrev s__law_closed : Stmt := topS 32
theorem sc__law_closed : FnScope ["bag", "many", "size", "way", "names", "f", "name"] ["bag", "many", "size"] (defScope s__law_closed) := ⟨rfl, rfl, rfl, by decide +kernel, rfl, by decide +kernel, by decide +kernel⟩
abbrev s__law_is_told : Stmt := topS 33
theorem sc__law_is_told : FnScope ["f", "is_named", "known", "due", "told"] ["f", "is_named"] (defScope s__law_is_told) := ⟨rfl, rfl, rfl, by decide +kernel, rfl, by decide +kernel, by decide +kernel⟩
abbrev s__law_is_let : Stmt := topS 34
theorem sc__law_is_let : FnScope ["f", "many", "size", "deep"] ["f"] (defScope s__law_is_let) := ⟨rfl, rfl, rfl, by decide +kernel, rfl, by decide +kernel, by decide +kernel⟩
abbrev s_law : Stmt := topS 35
theorem sc_law : FnScope ["script", "bag", "turn", "f", "own", "x", "y", "shadow", "some"] ["script"] (defScope s_law) := ⟨rfl, rfl, rfl, by decide +kernel, rfl, by decide +kernel, by decide +kernel⟩
section
variable {P : Program} {w : World} {K : PySem.W.Frag} {mg : Str → Option Value} {base : Heap}

/-! ### parts_of -/
def S_parts_of : DSp := fun ds ω x k => ∃ f : Fm, ds = [f.enc] ∧ k (.tup (f.parts.map Fm.enc)) ω
theorem ok_parts_of {v_ROWS v_BINDERS : V} (u_parts_of : Tx K mg "parts_of" s_parts_of ["formula"]) (c_ROWS : CstD K mg "ROWS" v_ROWS (.tup [.str "and", .str "or"])) (c_BINDERS : CstD K mg "BINDERS" v_BINDERS (.tup [.str "each", .str "some"])) : Df false P w K mg base CX0 1 "parts_of" s_parts_of ["formula"] S_parts_of := by
  refine u_parts_of.dfy sc_parts_of (fun ds ω x k h => by obtain ⟨f, rfl, _⟩ := h; rfl) fun f_ cdv A out s_ H_ hG hr => ?_
  have nd := sc_parts_of.nd
  refine ⟨_, _, (yss_cons (ys_if (yt_cmp (yo_eq hr.units) (ye_ix (yi_any (hu_of hr)) (yv 0) yint) ystr) (yss_one (ys_ret (ye_tup ya_nil))) yss_nil)
    (yss_cons (ys_if (yt_cmp (yo_in (hu_of hr)) (ye_ix (yi_any (hu_of hr)) (yv 0) yint) (yg c_ROWS)) (yss_one (ys_ret (ye_ix (yi_any (hu_of hr)) (yv 0) yint))) yss_nil)
    (yss_one (ys_ret (ye_if (yt_cmp (yo_in (hu_of hr)) (ye_ix (yi_any (hu_of hr)) (yv 0) yint) (yg c_BINDERS)) (ye_slice yl_any (yv 0) (yp_some yint) yp_none) (ye_slice yl_any (yv 0) (yp_some yint) yp_none)))))), fun ds ω x k h => ?_⟩
  obtain ⟨f, e, q⟩ := h
  cases f with
  | lt y =>
    have e : ds = [.tup [.str "letter", .str y]] := e
    subst e
    walk_at "go"
    exact .of q
  | nt f =>
    have e : ds = [.tup [.str "not", f.enc]] := e
    subst e
    walk_at "go"
    exact .of q
  | row b fs =>
    have q2 : k (.tup (Fm.encs fs)) ω := by rw [encs_map]; exact q
    cases b with
    | true =>
      have e : ds = [.tup [.str "and", .tup (Fm.encs fs)]] := e
      subst e
      walk_at "go"
      exact .of q2
    | false =>
      have e : ds = [.tup [.str "or", .tup (Fm.encs fs)]] := e
      subst e
      walk_at "go"
      exact .of q2
  | sm f g =>
    have e : ds = [.tup [.str "same", f.enc, g.enc]] := e
    subst e
    walk_at "go"
    exact .of q
  | qt b y f =>
    cases b with
    | true =>
      have e : ds = [.tup [.str "each", .str y, f.enc]] := e
      subst e
      walk_at "go"
      exact .of q
    | false =>
      have e : ds = [.tup [.str "some", .str y, f.enc]] := e
      subst e
      walk_at "go"
      exact .of q
/-! ### has_binder -/
def S_has_binder (n : Nat) : DSp := fun ds ω x k => ∃ f : Fm, ds = [f.enc] ∧ f.depth ≤ n ∧ f.wid ≤ 1000 ∧ k (.bl (!f.plain)) ω
theorem ok_has_binder {v_BINDERS : V} (u_has_binder : Tx K mg "has_binder" s_has_binder ["formula"]) (c_BINDERS : CstD K mg "BINDERS" v_BINDERS (.tup [.str "each", .str "some"])) (z_any : mg "any" = none) (h_parts_of : Df false P w K mg base CX0 1 "parts_of" s_parts_of ["formula"] S_parts_of) : ∀ n, Df false P w K mg base CX0 (n + 1) "has_binder" s_has_binder ["formula"] (S_has_binder n) := by
  intro n
  induction n with
  | zero => exact u_has_binder.no fun ds ω x k ⟨f, _, h, _⟩ => by have := depth_pos f; omega
  | succ n h_has_binder =>
  refine u_has_binder.dfy sc_has_binder (fun ds ω x k h => by obtain ⟨f, rfl, _⟩ := h; rfl) fun f_ cdv A out s_ H_ hG hr => ?_
  have nd := sc_has_binder.nd
  refine ⟨_, _, (yss_one (ys_ret (ye_or (ye_cmp (yo_in (hu_of hr)) (ye_ix (yi_any (hu_of hr)) (yv 0) yint) (yg c_BINDERS)) (ye_one (ye_cb (yc_any rfl) z_any PyProof.Rows.boot_any (ya_cons (ye_lc (own := [("part", 1)]) rfl nd (yi_seq (ye_call h_parts_of gF (hr.mono (by omega)) passAll (ya_cons (yv 0) ya_nil))) (blkOk_by (by kernel_rfl)) (og_name (by decide)) (fun _ _ _ _ _ => (yg_name (i := 1) nd)) (fun _ _ _ _ _ => yts_nil) (fun _ _ _ _ _ => (ye_call h_has_binder gF (hr.mono (by omega)) passAll (ya_cons (yv 1) ya_nil)))) ya_nil)))))), fun ds ω x k h => ?_⟩
  obtain ⟨f, e, hd, hn, q⟩ := h
  have turn : ∀ (ρ : Rho) (f : Fm), ρ = startD ["formula", "part"] [f.enc] → f.depth ≤ n + 1 → f.wid ≤ 1000 → ∀ (ω : Store) (x : KX) (k : KV), k (.bl (!Fm.plains f.parts)) ω → dCB sAny (dCons (dLc (diSeq (dCB S_parts_of (dCons (dVar 0) dNil))) (gdName 1) dYes (dCB (S_has_binder n) (dCons (dVar 1) dNil)) [1]) dNil) ρ ω x k := by
    intro ρ f e hd hn ω x k q
    subst e
    walk_at "go"
    refine lc_to f.parts Fm.enc (fun g => .bl (!g.plain)) ((f.parts.map fun g => !g.plain).map D.bl) (by rw [List.map_map]; rfl) (fun k0 h => ?_) (small_lt (by have := parts_wid f; omega)) (fun g hg ω' k1 q1 => ?_) (.inl ?_)
    · walk_at "go"
      exact ⟨f, rfl, h _ (.inr (.inr rfl))⟩
    · walk_at "go"
      have h1 := part_depth hg
      have h2 := part_wid hg
      exact ⟨g, rfl, by omega, by omega, q1⟩
    · walk_at "go"
      rw [any_plain]
      exact q
  cases f with
  | lt y =>
    have e : ds = [.tup [.str "letter", .str y]] := e
    subst e
    walk_at "go"
    exact turn _ (.lt y) rfl hd hn _ _ _ (RtK.of q)
  | nt f =>
    have e : ds = [.tup [.str "not", f.enc]] := e
    subst e
    walk_at "go"
    exact turn _ (.nt f) rfl hd hn _ _ _ (RtK.of (by show k (.bl (!(f.plain && true))) ω; rw [Bool.and_true]; exact q))
  | row b fs =>
    cases b with
    | true =>
      have e : ds = [.tup [.str "and", .tup (Fm.encs fs)]] := e
      subst e
      walk_at "go"
      exact turn _ (.row true fs) rfl hd hn _ _ _ (RtK.of q)
    | false =>
      have e : ds = [.tup [.str "or", .tup (Fm.encs fs)]] := e
      subst e
      walk_at "go"
      exact turn _ (.row false fs) rfl hd hn _ _ _ (RtK.of q)
  | sm f g =>
    have e : ds = [.tup [.str "same", f.enc, g.enc]] := e
    subst e
    walk_at "go"
    exact turn _ (.sm f g) rfl hd hn _ _ _ (RtK.of (by show k (.bl (!(f.plain && (g.plain && true)))) ω; rw [Bool.and_true]; exact q))
  | qt b y f =>
    cases b with
    | true =>
      have e : ds = [.tup [.str "each", .str y, f.enc]] := e
      subst e
      walk_at "go"
      exact .of q
    | false =>
      have e : ds = [.tup [.str "some", .str y, f.enc]] := e
      subst e
      walk_at "go"
      exact .of q
/-! ### with_parts, spread_same -/
def wpD : Fm → List D → D
  | .lt _, ps => .tup ps
  | .nt _, ps => .tup (.str "not" :: ps)
  | .row c _, ps => .tup [.str (wd c), .tup ps]
  | .sm _ _, ps => .tup (.str "same" :: ps)
  | .qt _ _ _, ps => .tup ps
def Fm.isB : Fm → Bool
  | .qt _ _ _ => true
  | _ => false
def Fm.isL : Fm → Bool
  | .lt _ => true
  | _ => false
def S_with_parts : DSp := fun ds ω x k => ∃ (f : Fm) (ps : List D), ds = [f.enc, .tup ps] ∧ f.isB = false ∧ f.isL = false ∧ ps.length ≤ 1000 ∧ k (wpD f ps) ω
theorem cutH (a : D) (ds : List D) : cutD (a :: ds) none (some 1) = [a] := by
  rw [cut_take _ (by decide)]
  rfl
theorem ok_with_parts {v_ROWS v_BINDERS : V} (u_with_parts : Tx K mg "with_parts" s_with_parts ["formula", "parts"]) (c_ROWS : CstD K mg "ROWS" v_ROWS (.tup [.str "and", .str "or"])) (c_BINDERS : CstD K mg "BINDERS" v_BINDERS (.tup [.str "each", .str "some"])) : Df false P w K mg base CX0 1 "with_parts" s_with_parts ["formula", "parts"] S_with_parts := by
  refine u_with_parts.dfy sc_with_parts (fun ds ω x k h => by obtain ⟨f, ps, rfl, _⟩ := h; rfl) fun f_ cdv A out s_ H_ hG hr => ?_
  have nd := sc_with_parts.nd
  refine ⟨_, _, (yss_cons (ys_if (yt_cmp (yo_in (hu_of hr)) (ye_ix (yi_any (hu_of hr)) (yv 0) yint) (yg c_ROWS)) (yss_one (ys_ret (ye_tup (ya_cons (ye_ix (yi_any (hu_of hr)) (yv 0) yint) (ya_cons (yv 1) ya_nil))))) yss_nil)
    (yss_one (ys_ret (ye_if (yt_cmp (yo_in (hu_of hr)) (ye_ix (yi_any (hu_of hr)) (yv 0) yint) (yg c_BINDERS)) (ye_bin yo_add (ye_slice yl_any (yv 0) yp_none (yp_some yint)) (yv 1)) (ye_bin yo_add (ye_slice yl_any (yv 0) yp_none (yp_some yint)) (yv 1)))))), fun ds ω x k h => ?_⟩
  obtain ⟨f, ps, e, h1, h2, h3, q⟩ := h
  cases f with
  | lt y => cases h2
  | nt f =>
    have e : ds = [.tup [.str "not", f.enc], .tup ps] := e
    subst e
    walk_at "go"
    refine vSlT ?_
    rw [cutH]
    walk_at "go"
    refine vAddT (small_le (by show 1 + _ ≤ _; omega)) ?_
    walk_at "go"
    exact .of q
  | row b fs =>
    cases b with
    | true =>
      have e : ds = [.tup [.str "and", .tup (Fm.encs fs)], .tup ps] := e
      subst e
      walk_at "go"
      exact .of q
    | false =>
      have e : ds = [.tup [.str "or", .tup (Fm.encs fs)], .tup ps] := e
      subst e
      walk_at "go"
      exact .of q
  | sm f g =>
    have e : ds = [.tup [.str "same", f.enc, g.enc], .tup ps] := e
    subst e
    walk_at "go"
    refine vSlT ?_
    rw [cutH]
    walk_at "go"
    refine vAddT (small_le (by show 1 + _ ≤ _; omega)) ?_
    walk_at "go"
    exact .of q
  | qt b y f => cases h1
def spread (f g : Fm) : Fm := .row false [.row true [f, g], .row true [.nt f, .nt g]]
def S_spread_same : DSp := fun ds ω x k => ∃ f g : Fm, ds = [(Fm.sm f g).enc] ∧ k (spread f g).enc ω
theorem ok_spread_same (u_spread_same : Tx K mg "spread_same" s_spread_same ["formula"]) : Df false P w K mg base CX0 1 "spread_same" s_spread_same ["formula"] S_spread_same := by
  refine u_spread_same.dfy sc_spread_same (fun ds ω x k h => by obtain ⟨f, g, rfl, _⟩ := h; rfl) fun f_ cdv A out s_ H_ hG hr => ?_
  have nd := sc_spread_same.nd
  refine ⟨_, _, (yss_cons (ys_asg (ye_slice yl_any (yv 0) (yp_some yint) yp_none) (yg_tup rfl (ygs_cons (yg_name (i := 1) nd) (ygs_cons (yg_name (i := 2) nd) ygs_nil))))
    (yss_one (ys_ret (ye_tup (ya_cons ystr (ya_cons (ye_tup (ya_cons (ye_tup (ya_cons ystr (ya_cons (ye_tup (ya_cons (yv 1) (ya_cons (yv 2) ya_nil))) ya_nil))) (ya_cons (ye_tup (ya_cons ystr (ya_cons (ye_tup (ya_cons (ye_tup (ya_cons ystr (ya_cons (yv 1) ya_nil))) (ya_cons (ye_tup (ya_cons ystr (ya_cons (yv 2) ya_nil))) ya_nil))) ya_nil))) ya_nil))) ya_nil)))))), fun ds ω x k h => ?_⟩
  obtain ⟨f, g, e, q⟩ := h
  have e : ds = [.tup [.str "same", f.enc, g.enc]] := e
  subst e
  walk_at "go"
  exact .of q
/-! ### free_in, free_names -/
def S_free_in (n : Nat) : DSp := fun ds ω x k => ∃ (f : Fm) (ns : List Str), ds = [f.enc, .tup (ns.map D.str)] ∧ f.inn ns = true ∧ f.depth ≤ n ∧ ns.length + n ≤ 10000 ∧ f.wid ≤ 1000 ∧ k (.lst []) ω
theorem ok_free_in {v_BINDERS : V} (u_free_in : Tx K mg "free_in" s_free_in ["formula", "bound"]) (h_parts_of : Df false P w K mg base CX0 1 "parts_of" s_parts_of ["formula"] S_parts_of) (c_BINDERS : CstD K mg "BINDERS" v_BINDERS (.tup [.str "each", .str "some"])) : ∀ n, Df false P w K mg base CX0 (n + 2) "free_in" s_free_in ["formula", "bound"] (S_free_in n) := by
  intro n
  induction n with
  | zero => exact u_free_in.no fun ds ω x k ⟨f, _, _, _, h, _⟩ => by have := depth_pos f; omega
  | succ n h_free_in =>
  refine u_free_in.dfy sc_free_in (fun ds ω x k h => by obtain ⟨f, ns, rfl, _⟩ := h; rfl) fun f_ cdv A out s_ H_ hG hr => ?_
  have nd := sc_free_in.nd
  refine ⟨_, _, (yss_cons (ys_if (yt_cmp (yo_eq hr.units) (ye_ix (yi_any (hu_of hr)) (yv 0) yint) ystr) (yss_one (ys_ret (ye_if (yt_cmp (yo_in (hu_of hr)) (ye_ix (yi_any (hu_of hr)) (yv 0) yint) (yv 1)) (ye_lst ya_nil) (ye_lst (ya_cons (ye_ix (yi_any (hu_of hr)) (yv 0) yint) ya_nil))))) yss_nil)
    (yss_cons (ys_set (i := 2) nd (ye_if (yt_cmp (yo_in (hu_of hr)) (ye_ix (yi_any (hu_of hr)) (yv 0) yint) (yg c_BINDERS)) (ye_bin yo_add (yv 1) (ye_tup (ya_cons (ye_ix (yi_any (hu_of hr)) (yv 0) yint) ya_nil))) (yv 1)))
    (yss_cons (ys_set (i := 3) nd (ye_lst ya_nil))
    (yss_cons (ys_for PassesOwn.never rfl (yi_seq (ye_call h_parts_of gF (hr.mono (by omega)) passAll (ya_cons (yv 0) ya_nil))) (yg_name (i := 4) nd) (yss_one (ys_expr (ye_extend (yv 3) (ya_cons (ye_call h_free_in gF (hr.mono (by omega)) passAll (ya_cons (yv 4) (ya_cons (yv 2) ya_nil))) ya_nil)))))
    (yss_one (ys_ret (yv 3))))))), fun ds ω x k h => ?_⟩
  obtain ⟨f, ns, e, hi, hd, hl, hw, q⟩ := h
  have loop : ∀ (f : Fm) (ms : List Str), f.depth ≤ n + 1 → ms.length + n ≤ 10000 → f.wid ≤ 1000 → (∀ g ∈ f.parts, g.inn ms = true) → ∀ (L : LEnds) (ρ : Rho) (s1 s4 : Option D) (p : Addr) (ω0 : Store), ρ = [some f.enc, s1, some (.tup (ms.map D.str)), some (.ptr p), s4] → ω0 p = none → (∀ ρ ω', (∃ s4, ρ = [some f.enc, s1, some (.tup (ms.map D.str)), some (.ptr p), s4]) → ω' = sup ω0 p (.lst []) → L.nx ρ ω') →
      ∀ x, S_parts_of [f.enc] (sup ω0 p (.lst [])) x (ForK (gdName 4) (dDrop (dBM sExtend (dVar 3) (dCons (dCB (S_free_in n) (dCons (dVar 4) (dCons (dVar 2) dNil))) dNil))) L ρ) := by
    intro f ms hd hl hw hi L ρ s1 s4 p ω0 e hp nx x
    subst e
    refine ⟨f, rfl, ?_⟩
    refine forK_inv (f.parts.map Fm.enc) (fun i ρ ω' => (∃ s4, ρ = [some f.enc, s1, some (.tup (ms.map D.str)), some (.ptr p), s4]) ∧ ω' = sup ω0 p (.lst [])) (.inr (.inr rfl)) ⟨⟨_, rfl⟩, rfl⟩ (fun i d ρ ω' hd2 ⟨⟨s4, e⟩, e2⟩ => ?_) fun ρ ω' ⟨e, e2⟩ => nx ρ ω' e e2
    subst e e2
    rw [List.getElem?_map] at hd2
    cases hg : f.parts[i]? with
    | none =>
      rw [hg] at hd2
      cases hd2
    | some g =>
      rw [hg] at hd2
      cases hd2
      have hm := List.mem_of_getElem? hg
      have k1 := part_depth hm
      have k2 := part_wid hm
      walk_at "go"
      refine ⟨⟨[], .ce sup_same⟩, ?_⟩
      walk_at "go"
      refine ⟨g, ms, rfl, hi g hm, by omega, hl, by omega, ?_⟩
      walk_at "go"
      refine vExtF sup_same (by show 0 ≤ _; omega) ?_
      rw [sup_sup]
      walk_at "go"
      exact ⟨⟨_, rfl⟩, rfl⟩
  have pin : f.isB = false → ∀ g ∈ f.parts, g.inn ns = true := fun nb g hg => part_inn (fun b x h z => by rw [z] at nb; cases nb) hi hg
  cases f with
  | lt y =>
    have e : ds = [.tup [.str "letter", .str y], .tup (ns.map D.str)] := e
    subst e
    walk_at "go"
    refine vInT (.str y) (flat_strs ns) ?_
    rw [inF_strs, show ns.contains y = true from hi]
    walk_at "go"
    exact .of q
  | nt f =>
    have e : ds = [.tup [.str "not", f.enc], .tup (ns.map D.str)] := e
    subst e
    walk_at "go"
    intro p hp
    walk_at "go"
    refine loop (.nt f) ns hd (by omega) hw (pin rfl) _ _ _ _ p ω rfl hp (fun ρ ω' hx e2 => ?_) _
    obtain ⟨s4, e⟩ := hx
    subst e e2
    walk_at "go"
    exact .fz hp q
  | row b fs =>
    cases b with
    | true =>
      have e : ds = [.tup [.str "and", .tup (Fm.encs fs)], .tup (ns.map D.str)] := e
      subst e
      walk_at "go"
      intro p hp
      walk_at "go"
      refine loop (.row true fs) ns hd (by omega) hw (pin rfl) _ _ _ _ p ω rfl hp (fun ρ ω' hx e2 => ?_) _
      obtain ⟨s4, e⟩ := hx
      subst e e2
      walk_at "go"
      exact .fz hp q
    | false =>
      have e : ds = [.tup [.str "or", .tup (Fm.encs fs)], .tup (ns.map D.str)] := e
      subst e
      walk_at "go"
      intro p hp
      walk_at "go"
      refine loop (.row false fs) ns hd (by omega) hw (pin rfl) _ _ _ _ p ω rfl hp (fun ρ ω' hx e2 => ?_) _
      obtain ⟨s4, e⟩ := hx
      subst e e2
      walk_at "go"
      exact .fz hp q
  | sm f g =>
    have e : ds = [.tup [.str "same", f.enc, g.enc], .tup (ns.map D.str)] := e
    subst e
    walk_at "go"
    intro p hp
    walk_at "go"
    refine loop (.sm f g) ns hd (by omega) hw (pin rfl) _ _ _ _ p ω rfl hp (fun ρ ω' hx e2 => ?_) _
    obtain ⟨s4, e⟩ := hx
    subst e e2
    walk_at "go"
    exact .fz hp q
  | qt b y f =>
    have pq : ∀ g ∈ (Fm.qt b y f).parts, g.inn (ns ++ [y]) = true := fun g hg => by rw [List.mem_singleton.mp hg]; exact hi
    have ea : D.tup (ns.map D.str ++ [.str y]) = .tup ((ns ++ [y]).map D.str) := by rw [List.map_append]; rfl
    cases b with
    | true =>
      have e : ds = [.tup [.str "each", .str y, f.enc], .tup (ns.map D.str)] := e
      subst e
      walk_at "go"
      refine vAddT (small_le (by rw [List.length_map]; show ns.length + 1 ≤ _; omega)) ?_
      rw [ea]
      walk_at "go"
      intro p hp
      walk_at "go"
      refine loop (.qt true y f) (ns ++ [y]) hd (by rw [List.length_append]; show ns.length + 1 + n ≤ _; omega) hw pq _ _ _ _ p ω rfl hp (fun ρ ω' hx e2 => ?_) _
      obtain ⟨s4, e⟩ := hx
      subst e e2
      walk_at "go"
      exact .fz hp q
    | false =>
      have e : ds = [.tup [.str "some", .str y, f.enc], .tup (ns.map D.str)] := e
      subst e
      walk_at "go"
      refine vAddT (small_le (by rw [List.length_map]; show ns.length + 1 ≤ _; omega)) ?_
      rw [ea]
      walk_at "go"
      intro p hp
      walk_at "go"
      refine loop (.qt false y f) (ns ++ [y]) hd (by rw [List.length_append]; show ns.length + 1 + n ≤ _; omega) hw pq _ _ _ _ p ω rfl hp (fun ρ ω' hx e2 => ?_) _
      obtain ⟨s4, e⟩ := hx
      subst e e2
      walk_at "go"
      exact .fz hp q
def S_free_names : DSp := fun ds ω x k => ∃ f : Fm, ds = [f.enc] ∧ f.inn [] = true ∧ f.depth ≤ 112 ∧ f.wid ≤ 1000 ∧ k (.tup []) ω
theorem ok_free_names (u_free_names : Tx K mg "free_names" s_free_names ["formula"]) (z_tuple : mg "tuple" = none) (z_sorted : mg "sorted" = none) (z_set : mg "set" = none) (h_free_in : Df false P w K mg base CX0 114 "free_in" s_free_in ["formula", "bound"] (S_free_in 112)) : Df false P w K mg base CX0 115 "free_names" s_free_names ["formula"] S_free_names := by
  refine u_free_names.dfy sc_free_names (fun ds ω x k h => by obtain ⟨f, rfl, _⟩ := h; rfl) fun f_ cdv A out s_ H_ hG hr => ?_
  have nd := sc_free_names.nd
  refine ⟨_, _, (yss_one (ys_ret (ye_ct yc_tuple z_tuple PyProof.Rows.boot_tuple (ya_cons (ye_sset0 (P := P) rfl hr.units z_sorted z_set (ye_call h_free_in gF (hr.mono (by omega)) passAll (ya_cons (yv 0) (ya_cons (ye_tup ya_nil) ya_nil)))) ya_nil)))), fun ds ω x k h => ?_⟩
  obtain ⟨f, rfl, hi, hd, hw, q⟩ := h
  walk_at "go"
  refine ⟨f, [], rfl, hi, hd, by show 0 + 112 ≤ _; omega, hw, ?_⟩
  walk_at "go"
  refine ⟨_, rfl, .fr _, .inl ?_⟩
  walk_at "go"
  exact .of q
end
end L3
namespace L3
open PySem L2 PySem.Spec PyProof.Rows
open PySem (PyData)
local macro_rules | `(tactic| walk_at "g1") => `(tactic| with_reducible first
  | refine gSeq ?_ | refine gIfS ?_ | refine gTest ?_ | refine gOp ?_ | refine gCons ?_ | refine gNil ?_ | refine gC ?_ | refine gCB ?_ | refine gAsgNew ?_ | refine gAsg ?_ | refine gRet ?_ | refine gTup ?_ | refine gLst ?_
  | refine gBl ?_ | refine gName ?_ | refine gNot ?_ | refine gAndV ?_ | refine gOrV ?_ | refine gNotV ?_ | refine gIf ?_ | refine gTru ?_ | refine gTrB ?_ | refine gTrT ?_ | refine gTrL ?_ | refine gUn ?_ | refine gDrop ?_ | refine gNext ?_ | refine gSub ?_ | refine gSl ?_ | refine gPart ?_ | refine gPa ?_ | refine gNoP ?_ | refine gPar ?_ | refine gPar3 ?_ | refine gPar32 ?_ | refine gRev ?_ | refine gRvF ?_ | refine gPar2 ?_ | refine gNx ?_ | refine gRtS ?_ | refine gCtS ?_ | refine gBkS ?_ | refine gNxL ?_ | refine gCtL ?_ | refine gBkL ?_ | refine gRtL ?_ | refine gRtU ?_ | refine gNxU ?_ | refine gFor ?_ | refine gForC ?_ | refine gForN ?_ | refine gBM ?_ | refine gBM0 ?_ | refine gCallK ?_
  | refine gdConsI ?_ | refine gdNilI ?_ | refine vEqS ?_ | refine vEqI ?_ | refine vEqB ?_ | refine vNeS ?_ | refine vNeI ?_ | refine vNeB ?_ | refine vAddI ?_ | refine vSub ?_ | refine vNeg ?_ | refine vLt ?_ | refine vLe ?_ | refine vGt ?_ | refine vGe ?_ | refine vMax2 ?_ | refine vMin2 ?_ | refine vAbs ?_ | refine vIntI ?_ | refine vIntB ?_ | refine vLenF ?_ | refine vLenQ ?_ | refine vLenT ?_ | refine vSumF ?_ | refine vAnyF ?_ | refine vAllF ?_ | refine vTupF ?_ | refine vTupT ?_ | refine vSlT1 ?_ | refine vSlT2 ?_)
local macro_rules | `(tactic| walk_at "g0") => `(tactic| first
  | walk_at "g1"
  | ((with_reducible apply gVar); (exact rfl))
  | ((with_reducible apply vIxT); (exact rfl))
  | ((with_reducible apply vIxF); (exact rfl))
  | ((with_reducible refine vInTb ?_ ?_ ?_); (exact rfl); (exact rfl))
  | ((with_reducible refine vNinTb ?_ ?_ ?_); (exact rfl); (exact rfl))
  | ((with_reducible refine vInLb ?_ ?_ ?_); (exact rfl); (exact rfl))
  | ((with_reducible refine vNinLb ?_ ?_ ?_); (exact rfl); (exact rfl))
  | ((with_reducible refine gdTupT ?_ ?_); (exact rfl))
  | ((with_reducible refine gdTupL ?_ ?_); (exact rfl))
  | ((with_reducible refine gTu ?_ ?_); (exact small_le (by simp)))
  | ((with_reducible refine gIt ?_ ?_); (first | exact rfl | exact decide_eq_true rfl | decide +kernel))
  | ((with_reducible refine gIff ?_ ?_); (first | exact rfl | decide +kernel)))
local macro_rules | `(tactic| walk_at "gq") => `(tactic| first
  | walk_at "g0"
  | ((with_reducible refine gLs ?_ ?_); (exact small_le (by simp))))
local macro_rules | `(tactic| walk_at "g2") => `(tactic| first
  | walk_at "gq"
  | with_reducible refine gAnd ?_
  | with_reducible refine gOr ?_)
local macro_rules | `(tactic| walk_at "go") => `(tactic| repeat walk_at "g2")
local macro_rules | `(tactic| walk_at "gp") => `(tactic| repeat walk_at "gq")
local macro_rules | `(tactic| walk_at "gn") => `(tactic| repeat (first | walk_at "g0" | with_reducible refine gAnd ?_ | with_reducible refine gOr ?_))

section
variable {P : Program} {w : World} {K : PySem.W.Frag} {mg : Str → Option Value} {base : Heap}

/-! ### pulled_sizes -/
abbrev szD (f : Fm) : D := .tup [.int (f.qn : Nat), .int (f.nn : Nat), .int (f.dd : Nat)]
theorem qns_snoc (a : Fm) : ∀ l : List Fm, Fm.qns (l ++ [a]) = Fm.qns l + a.qn
  | [] => (Nat.zero_add _).symm
  | b :: l => by
    show b.qn + Fm.qns (l ++ [a]) = b.qn + Fm.qns l + a.qn
    rw [qns_snoc a l, Nat.add_assoc]
theorem nns_snoc (a : Fm) : ∀ l : List Fm, Fm.nns (l ++ [a]) = Fm.nns l + a.nn
  | [] => (Nat.zero_add _).symm
  | b :: l => by
    show b.nn + Fm.nns (l ++ [a]) = b.nn + Fm.nns l + a.nn
    rw [nns_snoc a l, Nat.add_assoc]
theorem dds_snoc (a : Fm) : ∀ l : List Fm, Fm.dds (l ++ [a]) = max (Fm.dds l) a.dd
  | [] => by show max a.dd 0 = max 0 a.dd; omega
  | b :: l => by
    show max b.dd (Fm.dds (l ++ [a])) = max (max b.dd (Fm.dds l)) a.dd
    rw [dds_snoc a l]
    omega
def S_pulled_sizes (n : Nat) : DSp := fun ds ω x k => ∃ f : Fm, ds = [f.enc] ∧ f.depth ≤ n ∧ f.wid ≤ 1000 ∧ k (szD f) ω
theorem ok_pulled_sizes {v_BINDERS : V} (u_pulled_sizes : Tx K mg "pulled_sizes" s_pulled_sizes ["formula"]) (c_BINDERS : CstD K mg "BINDERS" v_BINDERS (.tup [.str "each", .str "some"])) (h_parts_of : Df false P w K mg base CX0 1 "parts_of" s_parts_of ["formula"] S_parts_of) (z_max : mg "max" = none) : ∀ n, Df false P w K mg base CX0 (n + 2) "pulled_sizes" s_pulled_sizes ["formula"] (S_pulled_sizes n) := by
  intro n
  induction n with
  | zero => exact u_pulled_sizes.no fun ds ω x k ⟨f, _, h, _⟩ => by have := depth_pos f; omega
  | succ n h_pulled_sizes =>
  refine u_pulled_sizes.dfy sc_pulled_sizes (fun ds ω x k h => by obtain ⟨f, rfl, _⟩ := h; rfl) fun f_ cdv A out s_ H_ hG hr => ?_
  have nd := sc_pulled_sizes.nd
  refine ⟨_, _, (yss_cons (ys_if (yt_cmp (yo_in (hu_of hr)) (ye_ix (yi_any (hu_of hr)) (yv 0) yint) (yg c_BINDERS)) (yss_cons (ys_asg (ye_call h_pulled_sizes gF (hr.mono (by omega)) passAll (ya_cons (ye_ix (yi_any (hu_of hr)) (yv 0) yint) ya_nil)) (yg_tup rfl (ygs_cons (yg_name (i := 1) nd) (ygs_cons (yg_name (i := 2) nd) (ygs_cons (yg_name (i := 3) nd) ygs_nil)))))
    (yss_one (ys_ret (ye_tup (ya_cons (ye_bin yo_add (yv 1) yint) (ya_cons (yv 2) (ya_cons (yv 3) ya_nil))))))) yss_nil)
    (yss_cons (ys_asg (ye_tup (ya_cons yint (ya_cons yint (ya_cons yint ya_nil)))) (yg_tup rfl (ygs_cons (yg_name (i := 1) nd) (ygs_cons (yg_name (i := 2) nd) (ygs_cons (yg_name (i := 3) nd) ygs_nil)))))
    (yss_cons (ys_for PassesOwn.never rfl (yi_seq (ye_call h_parts_of gF (hr.mono (by omega)) passAll (ya_cons (yv 0) ya_nil))) (yg_name (i := 4) nd) (yss_cons (ys_set (i := 5) nd (ye_call h_pulled_sizes gF (hr.mono (by omega)) passAll (ya_cons (yv 4) ya_nil)))
    (yss_one (ys_par3 (i := 1) (j := 2) (l := 3) rfl nd (ya_cons (ye_bin yo_add (yv 1) (ye_ix (yi_any (hu_of hr)) (yv 5) yint)) (ya_cons (ye_bin yo_add (yv 2) (ye_ix (yi_any (hu_of hr)) (yv 5) yint)) (ya_cons (ye_cb (yc_max2 rfl) z_max PyProof.Rows.boot_max (ya_cons (yv 3) (ya_cons (ye_ix (yi_any (hu_of hr)) (yv 5) yint) ya_nil))) ya_nil)))))))
    (yss_cons (ys_if (YW.yt (yw_and (yt_cmp (yo_eq hr.units) (ye_ix (yi_any (hu_of hr)) (yv 0) yint) ystr) (yw_and1 (yt_cmp yo_gt (yv 1) yint)))) (yss_one (ys_ret (ye_tup (ya_cons (ye_bin yo_mul yint (yv 1)) (ya_cons (ye_bin yo_add (ye_bin yo_mul yint (yv 2)) yint) (ya_cons (ye_bin yo_add (yv 3) yint) ya_nil)))))) yss_nil)
    (yss_one (ys_ret (ye_tup (ya_cons (yv 1) (ya_cons (ye_bin yo_add (yv 2) yint) (ya_cons (ye_bin yo_add (yv 3) yint) ya_nil)))))))))), fun ds ω x k h => ?_⟩
  obtain ⟨f, e, hd, hw, q⟩ := h
  have loop : ∀ (f : Fm), f.depth ≤ n + 1 → f.wid ≤ 1000 → ∀ (L : LEnds) (ρ : Rho) (s4 s5 : Option D) (ω : Store), ρ = [some f.enc, some (.int 0), some (.int 0), some (.int 0), s4, s5] → (∀ ρ s4 s5, ρ = [some f.enc, some (.int (Fm.qns f.parts : Nat)), some (.int (Fm.nns f.parts : Nat)), some (.int (Fm.dds f.parts : Nat)), s4, s5] → L.nx ρ ω) →
      ∀ x, S_parts_of [f.enc] ω x (ForK (gdName 4) (dSeq (dAsg (dCB (S_pulled_sizes n) (dCons (dVar 4) dNil)) (gdName 5)) (dPar3 1 2 3 (dCons (dOp sAdd (dVar 1) (dOp (sIx ⟨K, w⟩) (dVar 5) (dC (.int 0)))) (dCons (dOp sAdd (dVar 2) (dOp (sIx ⟨K, w⟩) (dVar 5) (dC (.int 1)))) (dCons (dCB sMax2 (dCons (dVar 3) (dCons (dOp (sIx ⟨K, w⟩) (dVar 5) (dC (.int 2))) dNil))) dNil))))) L ρ) := by
    intro f hd hw L ρ s4 s5 ω e nx x
    subst e
    refine ⟨f, rfl, ?_⟩
    refine forK_inv (f.parts.map Fm.enc) (fun i ρ ω' => ω' = ω ∧ ∃ s4 s5, ρ = [some f.enc, some (.int (Fm.qns (f.parts.take i) : Nat)), some (.int (Fm.nns (f.parts.take i) : Nat)), some (.int (Fm.dds (f.parts.take i) : Nat)), s4, s5]) (.inr (.inr rfl)) ⟨rfl, _, _, rfl⟩ (fun i d ρ ω' hd2 ⟨e2, s4, s5, e⟩ => ?_) fun ρ ω' ⟨e2, s4, s5, e⟩ => ?_
    · subst e e2
      rw [List.getElem?_map] at hd2
      cases hg : f.parts[i]? with
      | none =>
        rw [hg] at hd2
        cases hd2
      | some g =>
        rw [hg] at hd2
        cases hd2
        have hm := List.mem_of_getElem? hg
        have k1 := part_depth hm
        have k2 := part_wid hm
        walk_at "go"
        refine ⟨g, rfl, by omega, by omega, ?_⟩
        walk_at "go"
        refine ⟨rfl, some g.enc, some (szD g), ?_⟩
        rw [List.take_add_one, hg, Option.toList_some, qns_snoc, nns_snoc, dds_snoc, max_nat]
        rfl
    · subst e e2
      rw [List.length_map, List.take_length]
      exact nx _ _ _ rfl
  have done : ∀ {a b c a' b' c' : Nat}, a = a' → b = b' → c = c' → k (.tup [.int (a : Nat), .int (b : Nat), .int (c : Nat)]) ω → k (.tup [.int (a' : Nat), .int (b' : Nat), .int (c' : Nat)]) ω := fun h1 h2 h3 z => by
    subst h1 h2 h3
    exact z
  cases f with
  | lt y =>
    have e : ds = [.tup [.str "letter", .str y]] := e
    subst e
    walk_at "go"
    refine loop (.lt y) hd hw _ _ _ _ _ rfl (fun ρ s4 s5 e => ?_) _
    have e : ρ = [some (.tup [.str "letter", .str y]), _, _, _, _, _] := e
    subst e
    walk_at "go"
    exact .of q
  | nt f =>
    have e : ds = [.tup [.str "not", f.enc]] := e
    subst e
    walk_at "go"
    refine loop (.nt f) hd hw _ _ _ _ _ rfl (fun ρ s4 s5 e => ?_) _
    have e : ρ = [some (.tup [.str "not", f.enc]), _, _, _, _, _] := e
    subst e
    walk_at "go"
    exact .of (done (show f.qn = f.qn + 0 from rfl) (show f.nn + 1 = f.nn + 0 + 1 from rfl) (show f.dd + 1 = max f.dd 0 + 1 by omega) q)
  | row b fs =>
    cases b with
    | true =>
      have e : ds = [.tup [.str "and", .tup (Fm.encs fs)]] := e
      subst e
      walk_at "go"
      refine loop (.row true fs) hd hw _ _ _ _ _ rfl (fun ρ s4 s5 e => ?_) _
      have e : ρ = [some (.tup [.str "and", .tup (Fm.encs fs)]), _, _, _, _, _] := e
      subst e
      walk_at "go"
      exact .of q
    | false =>
      have e : ds = [.tup [.str "or", .tup (Fm.encs fs)]] := e
      subst e
      walk_at "go"
      refine loop (.row false fs) hd hw _ _ _ _ _ rfl (fun ρ s4 s5 e => ?_) _
      have e : ρ = [some (.tup [.str "or", .tup (Fm.encs fs)]), _, _, _, _, _] := e
      subst e
      walk_at "go"
      exact .of q
  | sm f g =>
    have e : ds = [.tup [.str "same", f.enc, g.enc]] := e
    subst e
    walk_at "go"
    refine loop (.sm f g) hd hw _ _ _ _ _ rfl (fun ρ s4 s5 e => ?_) _
    have e : ρ = [some (.tup [.str "same", f.enc, g.enc]), _, _, _, _, _] := e
    subst e
    walk_at "go"
    by_cases hp : (f.plain && g.plain) = true
    · have hq : (Fm.sm f g).qn = 0 := qn_plain (.sm f g) hp
      have h0 : Fm.qns (Fm.sm f g).parts = 0 := by
        have hq : 2 * (f.qn + g.qn) = 0 := hq
        show f.qn + (g.qn + 0) = 0
        omega
      refine gIff (decide_eq_false (by rw [h0]; omega)) ?_
      walk_at "go"
      have hn : (Fm.sm f g).nn = Fm.nns (Fm.sm f g).parts + 1 := by
        show (if (f.plain && g.plain) = true then f.nn + g.nn + 1 else 2 * (f.nn + g.nn) + 5) = f.nn + (g.nn + 0) + 1
        rw [if_pos hp]
        rfl
      have hd : (Fm.sm f g).dd = Fm.dds (Fm.sm f g).parts + 1 := by
        show (if (f.plain && g.plain) = true then max f.dd g.dd + 1 else max f.dd g.dd + 3) = max f.dd (max g.dd 0) + 1
        rw [if_pos hp]
        omega
      exact .of (done (hq.trans h0.symm) hn hd q)
    · have h0 : 0 < Fm.qns (Fm.sm f g).parts := by
        refine Nat.pos_of_ne_zero fun z => hp ?_
        have z : f.qn + (g.qn + 0) = 0 := z
        exact plain_qn (.sm f g) (by show 2 * (f.qn + g.qn) = 0; omega)
      refine gIt (decide_eq_true (by omega)) ?_
      walk_at "go"
      refine vMul (.inl (by decide)) ?_
      walk_at "go"
      refine vMul (.inl (by decide)) ?_
      walk_at "go"
      have hn : (Fm.sm f g).nn = 2 * Fm.nns (Fm.sm f g).parts + 5 := by
        show (if (f.plain && g.plain) = true then f.nn + g.nn + 1 else 2 * (f.nn + g.nn) + 5) = 2 * (f.nn + (g.nn + 0)) + 5
        rw [if_neg hp]
        omega
      have hd : (Fm.sm f g).dd = Fm.dds (Fm.sm f g).parts + 3 := by
        show (if (f.plain && g.plain) = true then max f.dd g.dd + 1 else max f.dd g.dd + 3) = max f.dd (max g.dd 0) + 3
        rw [if_neg hp]
        omega
      exact .of (done (show 2 * (f.qn + g.qn) = 2 * (f.qn + (g.qn + 0)) by omega) hn hd q)
  | qt b y f =>
    have h1 := part_depth (f := .qt b y f) (List.mem_singleton.mpr rfl)
    cases b with
    | true =>
      have e : ds = [.tup [.str "each", .str y, f.enc]] := e
      subst e
      walk_at "go"
      refine ⟨f, rfl, by omega, hw, ?_⟩
      walk_at "go"
      exact .of q
    | false =>
      have e : ds = [.tup [.str "some", .str y, f.enc]] := e
      subst e
      walk_at "go"
      refine ⟨f, rfl, by omega, hw, ?_⟩
      walk_at "go"
      exact .of q
/-! ### pulled -/
/-- the promise of putting ahead: of pulled and of the law's own -/
def S_pulled (n : Nat) : DSp := fun ds ω x k => ∃ (f : Fm) (b : Bool) (pn pq : Addr) (kvs : List (Key × D)) (ns : List Str) (ν : Str → Str) (qs : List Bool), ds = [f.enc, .bl b, .ptr pn, .ptr pq] ∧ ω pn = some (.dK kvs) ∧ NmD kvs ns ν ∧ KNd kvs ∧ f.inn ns = true ∧ ω pq = some (.lst (qsD 0 qs)) ∧ f.mu ≤ n ∧ f.wid ≤ 1000 ∧ ns.length + n ≤ 10000 ∧ f.mu ≤ 112 ∧
  (qs.length + f.qn ≤ 150) ∧ ∀ ω', ω' pq = some (.lst (qsD 0 (qs ++ (f.pull b ν qs.length).2))) → Kc (fun a => a = pq) ω ω' → k (f.pull b ν qs.length).1.enc ω'
theorem pulls_take (b : Bool) (ν : Str → Str) (n : Nat) (g : Fm) : ∀ l : List Fm, Fm.pulls (l ++ [g]) b ν n = ((Fm.pulls l b ν n).1 ++ [(g.pull b ν (n + (Fm.pulls l b ν n).2.length)).1], (Fm.pulls l b ν n).2 ++ (g.pull b ν (n + (Fm.pulls l b ν n).2.length)).2) := by
  intro l
  induction l generalizing n with
  | nil =>
    show ([(g.pull b ν n).1], (g.pull b ν n).2 ++ []) = ([(g.pull b ν (n + 0)).1], (g.pull b ν (n + 0)).2)
    rw [List.append_nil, Nat.add_zero]
  | cons a l ih =>
    show ((a.pull b ν n).1 :: (Fm.pulls (l ++ [g]) b ν (n + (a.pull b ν n).2.length)).1, (a.pull b ν n).2 ++ (Fm.pulls (l ++ [g]) b ν (n + (a.pull b ν n).2.length)).2) = _
    rw [ih]
    show _ = ((a.pull b ν n).1 :: (Fm.pulls l b ν (n + (a.pull b ν n).2.length)).1 ++ [(g.pull b ν (n + ((a.pull b ν n).2 ++ (Fm.pulls l b ν (n + (a.pull b ν n).2.length)).2).length)).1], ((a.pull b ν n).2 ++ (Fm.pulls l b ν (n + (a.pull b ν n).2.length)).2) ++ (g.pull b ν (n + ((a.pull b ν n).2 ++ (Fm.pulls l b ν (n + (a.pull b ν n).2.length)).2).length)).2)
    rw [List.length_append, Nat.add_assoc, List.append_assoc, List.cons_append]
theorem encs_app (a b : List Fm) : Fm.encs (a ++ b) = Fm.encs a ++ Fm.encs b := by rw [encs_map, encs_map, encs_map, List.map_append]
/-- the parts, one by one: the reading of the comprehension -/
theorem turn_pull {n : Nat} {f : Fm} {b : Bool} {pn pq : Addr} {kvs : List (Key × D)} {ns : List Str} {ν : Str → Str} {qs : List Bool} {ρ : Rho} {ω : Store} {x : KX} {k : KV} {t : LTE} {g : LTG} {te : LTE} {vs : List Nat}
    (h1 : ω pn = some (.dK kvs)) (h2 : NmD kvs ns ν) (h3 : KNd kvs) (h4 : ∀ g ∈ f.parts, g.inn ns = true) (h5 : ω pq = some (.lst (qsD 0 qs))) (h6 : f.mu ≤ n + 1) (h7 : f.wid ≤ 1000) (h8 : ns.length + n ≤ 10000) (h9 : f.mu ≤ 112) (h10 : qs.length + Fm.qns f.parts ≤ 150)
    (hi : ∀ k0 : KV, (∀ d, (d = .lst (f.parts.map Fm.enc) ∨ d = .sq (f.parts.map Fm.enc) ∨ d = .tup (f.parts.map Fm.enc)) → k0 d ω) → t ρ ω x k0)
    (hb : ∀ (a : Fm) (ω1 : Store) (k1 : KV), S_pulled n [a.enc, .bl b, .ptr pn, .ptr pq] ω1 X0 k1 → g a.enc (wipeD ρ vs) ω1 X0 fun ρ2 ω2 => te ρ2 ω2 X0 k1)
    (q : ∀ ω', ω' pq = some (.lst (qsD 0 (qs ++ (Fm.pulls f.parts b ν qs.length).2))) → Kc (fun a => a = pq) ω ω' → k (.lst (Fm.encs (Fm.pulls f.parts b ν qs.length).1)) ω') : dLc (diSeq t) g dYes te vs ρ ω x k := by
  have npq : pn ≠ pq := fun e => by rw [e, h5] at h1; cases h1
  have qle : ∀ i, Fm.qns (f.parts.take i) ≤ Fm.qns f.parts := fun i => by
    have e : ∀ (l : List Fm) (i : Nat), Fm.qns (l.take i) ≤ Fm.qns l := by
      intro l
      induction l with
      | nil => intro i; rw [List.take_nil]; exact Nat.le_refl _
      | cons a l ih =>
        intro i
        cases i with
        | zero => exact Nat.zero_le _
        | succ i => exact Nat.add_le_add_left (ih i) _
    exact e _ i
  refine lc_stT f.parts Fm.enc (fun a => a = pq) (fun i acc ω1 => acc = Fm.encs (Fm.pulls (f.parts.take i) b ν qs.length).1 ∧ ω1 pq = some (.lst (qsD 0 (qs ++ (Fm.pulls (f.parts.take i) b ν qs.length).2))) ∧ Kc (fun a => a = pq) ω ω1) (by have := parts_wid f; omega) (fun a e => by rw [e, h5]; exact Option.some_ne_none _) hi ⟨rfl, by rw [h5]; show _ = some (Cell.lst (qsD 0 (qs ++ []))); rw [List.append_nil], .refl⟩
    (fun c v i acc ω1 hc ⟨j1, j2, j3⟩ => ?_) (fun c i acc ω1 hc ⟨j1, j2, j3⟩ => ?_) (fun i a acc ω1 k1 ha hl ⟨j1, j2, j3⟩ hk => ?_) fun acc ω1 hl ⟨j1, j2, j3⟩ => ?_
  · have n1 : pq ≠ c := fun e => by rw [e, hc] at h5; cases h5
    exact ⟨j1, by rw [sup_ne n1]; exact j2, fun a a1 a2 => by rw [sup_ne fun e => a2 (by rw [e]; exact hc)]; exact j3 a a1 a2⟩
  · have n1 : pq ≠ c := fun e => by rw [e, hc] at h5; cases h5
    refine ⟨j1, ?_, fun a a1 a2 => ?_⟩
    · unfold L3.del
      rw [if_neg n1]
      exact j2
    · unfold L3.del
      rw [if_neg fun e => a2 (by rw [e]; exact hc)]
      exact j3 a a1 a2
  · have hm := List.mem_of_getElem? ha
    have m1 := part_mu hm
    have m2 := part_wid hm
    have e : f.parts.take (i + 1) = f.parts.take i ++ [a] := by rw [List.take_add_one, ha]; rfl
    have m4 := qle (i + 1)
    rw [e, qns_snoc] at m4
    have m5 : (qs ++ (Fm.pulls (f.parts.take i) b ν qs.length).2).length = qs.length + (Fm.pulls (f.parts.take i) b ν qs.length).2.length := List.length_append
    have m6 := pulls_len (f.parts.take i) b ν qs.length
    have e1 : ω1 pn = some (.dK kvs) := (j3 pn npq (by rw [h1]; exact Option.some_ne_none _)).trans h1
    refine hb a ω1 k1 ⟨a, b, pn, pq, kvs, ns, ν, _, rfl, e1, h2, h3, h4 a hm, j2, by omega, by omega, h8, by omega, by rw [m5, m6]; omega, fun ω2 o1 o2 => ?_⟩
    refine hk _ ω2 ⟨?_, ?_, j3.tr o2⟩ o2
    · rw [j1, e, pulls_take, m5]
      show _ = Fm.encs ((Fm.pulls (f.parts.take i) b ν qs.length).1 ++ [_])
      rw [encs_app]
      rfl
    · rw [o1, e, pulls_take, m5, List.append_assoc]
  · rw [List.take_length] at j1 j2
    rw [j1]
    exact q ω1 j2 j3
theorem pulls_lenF (b : Bool) (ν : Str → Str) : ∀ (fs : List Fm) (n : Nat), (Fm.pulls fs b ν n).1.length = fs.length
  | [], _ => rfl
  | f :: fs, n => congrArg (· + 1) (pulls_lenF b ν fs _)
set_option maxHeartbeats 4000000 in
theorem ok_pulled {pC : Addr} {v_BINDERS v_CONTRARY : V} (u_pulled : Tx K mg "pulled" s_pulled ["formula", "is_yes", "names", "quantifiers"]) (c_BINDERS : CstD K mg "BINDERS" v_BINDERS (.tup [.str "each", .str "some"])) (h_has_binder : Df false P w K mg base CX0 113 "has_binder" s_has_binder ["formula"] (S_has_binder 112)) (h_with_parts : Df false P w K mg base CX0 1 "with_parts" s_with_parts ["formula", "parts"] S_with_parts) (z_dict : mg "dict" = none) (h_spread_same : Df false P w K mg base CX0 1 "spread_same" s_spread_same ["formula"] S_spread_same) (z_tuple : mg "tuple" = none) (z_str : mg "str" = none) (c_CONTRARY : CstD K mg "CONTRARY" v_CONTRARY (.ptr pC)) (z_len : mg "len" = none) (h_parts_of : Df false P w K mg base CX0 1 "parts_of" s_parts_of ["formula"] S_parts_of) (kd : ∀ b, KD K w pC (qd b) (.str (qd !b))) : ∀ n, Df false P w K mg base CX0 (n + 114) "pulled" s_pulled ["formula", "is_yes", "names", "quantifiers"] (S_pulled n) := by
  intro n
  induction n with
  | zero => exact u_pulled.no fun ds ω x k ⟨f, _, _, _, _, _, _, _, _, _, _, _, _, _, h, _⟩ => by have := depth_mu f; have := depth_pos f; omega
  | succ n h_pulled =>
  refine u_pulled.dfy sc_pulled (fun ds ω x k h => by obtain ⟨f, b, pn, pq, kvs, ns, ν, qs, rfl, _⟩ := h; rfl) fun f_ cdv A out s_ H_ hG hr => ?_
  have nd := sc_pulled.nd
  refine ⟨_, _, (yss_cons (ys_if (yt_cmp (yo_eq hr.units) (ye_ix (yi_any (hu_of hr)) (yv 0) yint) ystr) (yss_one (ys_ret (ye_tup (ya_cons ystr (ya_cons (ye_ix (yi_any (hu_of hr)) (yv 2) (ye_ix (yi_any (hu_of hr)) (yv 0) yint)) ya_nil))))) yss_nil)
    (yss_cons (ys_if (yt_cmp (yo_eq hr.units) (ye_ix (yi_any (hu_of hr)) (yv 0) yint) ystr) (yss_one (ys_ret (ye_tup (ya_cons ystr (ya_cons (ye_call h_pulled gF (hr.mono (by omega)) passAll (ya_cons (ye_ix (yi_any (hu_of hr)) (yv 0) yint) (ya_cons (ye_not (yv 1)) (ya_cons (yv 2) (ya_cons (yv 3) ya_nil))))) ya_nil))))) yss_nil)
    (yss_cons (ys_if (YW.yt (yw_and (yt_cmp (yo_eq hr.units) (ye_ix (yi_any (hu_of hr)) (yv 0) yint) ystr) (yw_and1 (yt_val (ye_call h_has_binder gF (hr.mono (by omega)) passAll (ya_cons (yv 0) ya_nil)))))) (yss_one (ys_ret (ye_call h_pulled gF (hr.mono (by omega)) passAll (ya_cons (ye_call h_spread_same gF (hr.mono (by omega)) passAll (ya_cons (yv 0) ya_nil)) (ya_cons (yv 1) (ya_cons (yv 2) (ya_cons (yv 3) ya_nil))))))) yss_nil)
    (yss_cons (ys_if (yt_cmp (yo_nin (hu_of hr)) (ye_ix (yi_any (hu_of hr)) (yv 0) yint) (yg c_BINDERS)) (yss_one (ys_ret (ye_call h_with_parts gF (hr.mono (by omega)) passAll (ya_cons (yv 0) (ya_cons (ye_ct yc_tuple z_tuple PyProof.Rows.boot_tuple (ya_cons (ye_lc (own := [("part", 4)]) rfl nd (yi_seq (ye_call h_parts_of gF (hr.mono (by omega)) passAll (ya_cons (yv 0) ya_nil))) (blkOk_by (by kernel_rfl)) (og_name (by decide)) (fun _ _ _ _ _ => (yg_name (i := 4) nd)) (fun _ _ _ _ _ => yts_nil) (fun _ _ _ _ _ => (ye_call h_pulled gF (hr.mono (by omega)) passAll (ya_cons (yv 4) (ya_cons (yv 1) (ya_cons (yv 2) (ya_cons (yv 3) ya_nil))))))) ya_nil)) ya_nil))))) yss_nil)
    (yss_cons (ys_par (i := 5) (j := 6) rfl nd (ya_cons (ye_bin yo_add ystr (ye_ct yc_strI z_str PyProof.Rows.boot_str (ya_cons (ye_bin yo_add (ye_cb yc_len z_len PySem.boot_len (ya_cons (yv 3) ya_nil)) yint) ya_nil))) (ya_cons (ye_ct yc_dictD z_dict PyProof.Rows.boot_dict (ya_cons (yv 2) ya_nil)) ya_nil)))
    (yss_cons (ys_asg (yv 5) (yg_sub (hu_of hr) (yv 6) (ye_ix (yi_any (hu_of hr)) (yv 0) yint)))
    (yss_cons (ys_expr (ye_append (yv 3) (ya_cons (ye_tup (ya_cons (ye_if (yt_tru (yv 1)) (ye_ix (yi_any (hu_of hr)) (yv 0) yint) (ye_ix (yi_any (hu_of hr)) (yg c_CONTRARY) (ye_ix (yi_any (hu_of hr)) (yv 0) yint))) (ya_cons (yv 5) ya_nil))) ya_nil)))
    (yss_one (ys_ret (ye_call h_pulled gF (hr.mono (by omega)) passAll (ya_cons (ye_ix (yi_any (hu_of hr)) (yv 0) yint) (ya_cons (yv 1) (ya_cons (yv 6) (ya_cons (yv 3) ya_nil)))))))))))))), fun ds ω x k h => ?_⟩
  obtain ⟨f, b, pn, pq, kvs, ns, ν, qs, e, h1, h2, h3, h4, h5, h6, h7, h8, h9, h10, q⟩ := h
  have pin : f.isB = false → ∀ g ∈ f.parts, g.inn ns = true := fun nb g hg => part_inn (fun b x h z => by rw [z] at nb; cases nb) h4 hg
  have lenP : (Fm.encs (Fm.pulls f.parts b ν qs.length).1).length ≤ 1000 := by
    rw [encs_map, List.length_map, pulls_lenF]
    have := parts_wid f
    omega
  cases f with
  | lt y =>
    have e : ds = [.tup [.str "letter", .str y], .bl b, .ptr pn, .ptr pq] := e
    subst e
    walk_at "go"
    refine vIxK h1 (h2.1 y (List.contains_iff_mem.mp h4)) ?_
    walk_at "go"
    exact .of (q ω (by show _ = some (Cell.lst (qsD 0 (qs ++ []))); rw [List.append_nil]; exact h5) .refl)
  | nt f =>
    have e : ds = [.tup [.str "not", f.enc], .bl b, .ptr pn, .ptr pq] := e
    subst e
    have m1 : f.mu + 1 ≤ n + 1 := h6
    have m2 : f.mu + 1 ≤ 112 := h9
    walk_at "go"
    refine ⟨f, !b, pn, pq, kvs, ns, ν, qs, rfl, h1, h2, h3, h4, h5, by omega, h7, by omega, by omega, h10, fun ω' o1 o2 => ?_⟩
    walk_at "go"
    exact .of (q ω' o1 o2)
  | row c fs =>
    cases c with
    | true =>
      have e : ds = [.tup [.str "and", .tup (Fm.encs fs)], .bl b, .ptr pn, .ptr pq] := e
      subst e
      walk_at "go"
      refine turn_pull (f := .row true fs) (b := b) h1 h2 h3 (pin rfl) h5 h6 h7 (by omega) h9 h10 (fun k0 h => ?_) (fun a ω1 k1 h => ?_) fun ω' o1 o2 => ?_
      · walk_at "go"
        exact ⟨.row true fs, rfl, h _ (.inr (.inr rfl))⟩
      · walk_at "go"
        exact h
      · walk_at "go"
        refine ⟨.row true fs, _, rfl, rfl, rfl, lenP, ?_⟩
        exact .of (q ω' o1 o2)
    | false =>
      have e : ds = [.tup [.str "or", .tup (Fm.encs fs)], .bl b, .ptr pn, .ptr pq] := e
      subst e
      walk_at "go"
      refine turn_pull (f := .row false fs) (b := b) h1 h2 h3 (pin rfl) h5 h6 h7 (by omega) h9 h10 (fun k0 h => ?_) (fun a ω1 k1 h => ?_) fun ω' o1 o2 => ?_
      · walk_at "go"
        exact ⟨.row false fs, rfl, h _ (.inr (.inr rfl))⟩
      · walk_at "go"
        exact h
      · walk_at "go"
        refine ⟨.row false fs, _, rfl, rfl, rfl, lenP, ?_⟩
        exact .of (q ω' o1 o2)
  | sm f g =>
    have e : ds = [.tup [.str "same", f.enc, g.enc], .bl b, .ptr pn, .ptr pq] := e
    subst e
    have dm := depth_mu (.sm f g)
    walk_at "go"
    refine ⟨.sm f g, rfl, by omega, h7, ?_⟩
    walk_at "go"
    cases hp : (f.plain && g.plain) with
    | true =>
      refine gIff (show (!(f.plain && g.plain)) = false by rw [hp]; rfl) ?_
      walk_at "go"
      have hz : f.qn = 0 ∧ g.qn = 0 := by
        have z : 2 * (f.qn + g.qn) = 0 := qn_plain (.sm f g) hp
        omega
      have e1 : (f.pull b ν qs.length).2 = [] := List.length_eq_zero_iff.mp (by rw [pull_len, hz.1])
      have e2 : (g.pull b ν qs.length).2 = [] := List.length_eq_zero_iff.mp (by rw [pull_len, hz.2])
      have e3 : Fm.pulls [f, g] b ν qs.length = ([(f.pull b ν qs.length).1, (g.pull b ν qs.length).1], []) := by
        simp only [Fm.pulls, e1, e2, List.length_nil, Nat.add_zero, List.append_nil]
      refine turn_pull (f := .sm f g) (b := b) h1 h2 h3 (pin rfl) h5 h6 h7 (by omega) h9 (by show _ + (f.qn + (g.qn + 0)) ≤ 150; omega) (fun k0 h => ?_) (fun a ω1 k1 h => ?_) fun ω' o1 o2 => ?_
      · walk_at "go"
        exact ⟨.sm f g, rfl, h _ (.inr (.inr rfl))⟩
      · walk_at "go"
        exact h
      · walk_at "go"
        refine ⟨.sm f g, _, rfl, rfl, rfl, lenP, ?_⟩
        rw [pull_sm0 hp] at q
        have o3 : ω' pq = some (.lst (qsD 0 (qs ++ (Fm.pulls [f, g] b ν qs.length).2))) := o1
        rw [e3] at o3
        show RtK k (wpD (Fm.sm f g) (Fm.encs (Fm.pulls [f, g] b ν qs.length).1)) ω'
        rw [e3]
        exact .of (q ω' o3 o2)
    | false =>
      refine gIt (show (!(f.plain && g.plain)) = true by rw [hp]; rfl) ?_
      walk_at "go"
      refine ⟨f, g, rfl, ?_⟩
      walk_at "go"
      have m1 : max f.mu g.mu + 4 ≤ n + 1 := h6
      have m2 : max f.mu g.mu + 4 ≤ 112 := h9
      have m3 : max f.wid g.wid ≤ 1000 := h7
      have m4 : qs.length + 2 * (f.qn + g.qn) ≤ 150 := h10
      have m5 : f.inn ns = true ∧ g.inn ns = true := by rw [← Bool.and_eq_true]; exact h4
      refine ⟨spread f g, b, pn, pq, kvs, ns, ν, qs, rfl, h1, h2, h3, ?_, h5, ?_, ?_, by omega, ?_, ?_, fun ω' o1 o2 => ?_⟩
      · show ((f.inn ns && (g.inn ns && true)) && ((f.inn ns && (g.inn ns && true)) && true)) = true
        rw [m5.1, m5.2]
        rfl
      · show max (max f.mu (max g.mu 0) + 1) (max (max (f.mu + 1) (max (g.mu + 1) 0) + 1) 0) + 1 ≤ n
        omega
      · show max 2 (max (max 2 (max f.wid (max g.wid 0))) (max (max 2 (max f.wid (max g.wid 0))) 0)) ≤ 1000
        omega
      · show max (max f.mu (max g.mu 0) + 1) (max (max (f.mu + 1) (max (g.mu + 1) 0) + 1) 0) + 1 ≤ 112
        omega
      · show _ + (f.qn + (g.qn + 0) + (f.qn + (g.qn + 0) + 0)) ≤ 150
        omega
      · rw [pull_sm1 hp] at q
        exact .of (q ω' o1 o2)
  | qt c y f =>
    have m1 : f.mu + 1 ≤ n + 1 := h6
    have m2 : f.mu + 1 ≤ 112 := h9
    have m4 : qs.length + (f.qn + 1) ≤ 150 := h10
    have hlen : D.int ((((qsD 0 qs).length : Nat) : Int) + 1) = .int ((qs.length + 1 : Nat) : Int) := by rw [qsD_len]; rfl
    have frl : ("v" : Str).length + (toString ((qs.length + 1 : Nat) : Int) : Str).length ≤ sizeLine := by
      have h := (okName_of (fr_ok (n := qs.length + 1) (by omega))).1
      have e : (fr (qs.length + 1)).length = ("v" : Str).length + (toString ((qs.length + 1 : Nat) : Int) : Str).length := by
        unfold fr
        exact PySem.Str.length_append _ _
      rw [← e]
      exact small_le (by omega)
    have main : ∀ (z : Bool), z = (if b then c else !c) → ∀ (qd_ : Addr), ω qd_ = none → ∀ (X1 : KX) (k1 : KV), (∀ ω', k1 ((Fm.qt c y f).pull b ν qs.length).1.enc ω' → True) → (∀ ω', ω' pq = some (.lst (qsD 0 (qs ++ ((Fm.qt c y f).pull b ν qs.length).2))) → Kc (fun a => a = pq) ω ω' → k1 ((Fm.qt c y f).pull b ν qs.length).1.enc ω') →
        S_pulled n [f.enc, .bl b, .ptr qd_, .ptr pq] (sup (sup ω qd_ (.dK (putD kvs (.inr y) (.str (fr (qs.length + 1)))))) pq (.lst (qsD 0 qs ++ [.tup [.str (qd z), .str (fr (qs.length + 1))]]))) X1 k1 := by
      intro z hz r hr X1 k1 _ hk
      have n1 : pq ≠ r := fun e => by rw [e, hr] at h5; cases h5
      refine ⟨f, b, r, pq, _, ns ++ [y], set1 ν y (fr (qs.length + 1)), qs ++ [z], rfl, by rw [sup_ne n1.symm, sup_same], h2.put, h3.put, h4, ?_, by omega, h7, by rw [List.length_append]; show ns.length + 1 + n ≤ _; omega, by omega, by rw [List.length_append]; show qs.length + 1 + f.qn ≤ _; omega, fun ω' o1 o2 => ?_⟩
      · rw [sup_same, qsD_app, Nat.zero_add]
        rfl
      · have el : (qs ++ [z]).length = qs.length + 1 := List.length_append
        rw [el] at o1 ⊢
        refine hk ω' ?_ ((Kc.new hr).tr ((Kc.put (Ch := fun a => a = pq) (p := pq) rfl).tr o2))
        rw [o1, List.append_assoc, hz]
        rfl
    cases c with
    | true =>
      have e : ds = [.tup [.str "each", .str y, f.enc], .bl b, .ptr pn, .ptr pq] := e
      subst e
      walk_at "go"
      refine vLenP h5 ?_
      walk_at "go"
      rw [hlen]
      refine vStr (by omega) ?_
      walk_at "go"
      refine vAddS frl ?_
      walk_at "go"
      refine ⟨pn, kvs, rfl, .inl h1, fun r hr => ?_⟩
      have n1 : pq ≠ r := fun e => by rw [e, hr] at h5; cases h5
      walk_at "go"
      refine vSetK sup_same (by have := h2.2; omega) ?_
      rw [sup_sup]
      walk_at "go"
      refine ⟨⟨_, .ce (by rw [sup_ne n1]; exact h5)⟩, ?_⟩
      walk_at "go"
      cases b with
      | true =>
        walk_at "go"
        refine vAppend (by rw [sup_ne n1]; exact h5) (by rw [qsD_len]; omega) ?_
        walk_at "go"
        exact main true rfl r hr _ _ (fun _ _ => trivial) fun ω' o1 o2 => .of (q ω' o1 o2)
      | false =>
        walk_at "go"
        refine vIxW (kd true) ?_
        walk_at "go"
        refine vAppend (by rw [sup_ne n1]; exact h5) (by rw [qsD_len]; omega) ?_
        walk_at "go"
        exact main false rfl r hr _ _ (fun _ _ => trivial) fun ω' o1 o2 => .of (q ω' o1 o2)
    | false =>
      have e : ds = [.tup [.str "some", .str y, f.enc], .bl b, .ptr pn, .ptr pq] := e
      subst e
      walk_at "go"
      refine vLenP h5 ?_
      walk_at "go"
      rw [hlen]
      refine vStr (by omega) ?_
      walk_at "go"
      refine vAddS frl ?_
      walk_at "go"
      refine ⟨pn, kvs, rfl, .inl h1, fun r hr => ?_⟩
      have n1 : pq ≠ r := fun e => by rw [e, hr] at h5; cases h5
      walk_at "go"
      refine vSetK sup_same (by have := h2.2; omega) ?_
      rw [sup_sup]
      walk_at "go"
      refine ⟨⟨_, .ce (by rw [sup_ne n1]; exact h5)⟩, ?_⟩
      walk_at "go"
      cases b with
      | true =>
        walk_at "go"
        refine vAppend (by rw [sup_ne n1]; exact h5) (by rw [qsD_len]; omega) ?_
        walk_at "go"
        exact main false rfl r hr _ _ (fun _ _ => trivial) fun ω' o1 o2 => .of (q ω' o1 o2)
      | false =>
        walk_at "go"
        refine vIxW (kd false) ?_
        walk_at "go"
        refine vAppend (by rw [sup_ne n1]; exact h5) (by rw [qsD_len]; omega) ?_
        walk_at "go"
        exact main true rfl r hr _ _ (fun _ _ => trivial) fun ω' o1 o2 => .of (q ω' o1 o2)
end
end L3
namespace L3
open PySem L2 PySem.Spec PyProof.Rows
open PySem (PyData)
local macro_rules | `(tactic| walk_at "g1") => `(tactic| with_reducible first
  | refine gSeq ?_ | refine gIfS ?_ | refine gTest ?_ | refine gOp ?_ | refine gCons ?_ | refine gNil ?_ | refine gC ?_ | refine gCB ?_ | refine gAsgNew ?_ | refine gAsg ?_ | refine gRet ?_ | refine gTup ?_ | refine gLst ?_
  | refine gBl ?_ | refine gName ?_ | refine gNot ?_ | refine gAndV ?_ | refine gOrV ?_ | refine gNotV ?_ | refine gIf ?_ | refine gTru ?_ | refine gTrB ?_ | refine gTrT ?_ | refine gTrL ?_ | refine gUn ?_ | refine gDrop ?_ | refine gNext ?_ | refine gSub ?_ | refine gSl ?_ | refine gPart ?_ | refine gPa ?_ | refine gNoP ?_ | refine gPar ?_ | refine gPar3 ?_ | refine gPar32 ?_ | refine gRev ?_ | refine gRvF ?_ | refine gPar2 ?_ | refine gNx ?_ | refine gRtS ?_ | refine gCtS ?_ | refine gBkS ?_ | refine gNxL ?_ | refine gCtL ?_ | refine gBkL ?_ | refine gRtL ?_ | refine gRtU ?_ | refine gNxU ?_ | refine gFor ?_ | refine gForC ?_ | refine gForN ?_ | refine gBM ?_ | refine gBM0 ?_ | refine gCallK ?_
  | refine gdConsI ?_ | refine gdNilI ?_ | refine vEqS ?_ | refine vEqI ?_ | refine vEqB ?_ | refine vNeS ?_ | refine vNeI ?_ | refine vNeB ?_ | refine vAddI ?_ | refine vSub ?_ | refine vNeg ?_ | refine vLt ?_ | refine vLe ?_ | refine vGt ?_ | refine vGe ?_ | refine vMax2 ?_ | refine vMin2 ?_ | refine vAbs ?_ | refine vIntI ?_ | refine vIntB ?_ | refine vLenF ?_ | refine vLenQ ?_ | refine vLenT ?_ | refine vSumF ?_ | refine vAnyF ?_ | refine vAllF ?_ | refine vTupF ?_ | refine vTupT ?_ | refine vSlT1 ?_ | refine vSlT2 ?_)
local macro_rules | `(tactic| walk_at "g0") => `(tactic| first
  | walk_at "g1"
  | ((with_reducible apply gVar); (exact rfl))
  | ((with_reducible apply vIxT); (exact rfl))
  | ((with_reducible apply vIxF); (exact rfl))
  | ((with_reducible refine vInTb ?_ ?_ ?_); (exact rfl); (exact rfl))
  | ((with_reducible refine vNinTb ?_ ?_ ?_); (exact rfl); (exact rfl))
  | ((with_reducible refine vInLb ?_ ?_ ?_); (exact rfl); (exact rfl))
  | ((with_reducible refine vNinLb ?_ ?_ ?_); (exact rfl); (exact rfl))
  | ((with_reducible refine gdTupT ?_ ?_); (exact rfl))
  | ((with_reducible refine gdTupL ?_ ?_); (exact rfl))
  | ((with_reducible refine gTu ?_ ?_); (exact small_le (by simp)))
  | ((with_reducible refine gIt ?_ ?_); (first | exact rfl | exact decide_eq_true rfl | decide +kernel))
  | ((with_reducible refine gIff ?_ ?_); (first | exact rfl | decide +kernel)))
local macro_rules | `(tactic| walk_at "gq") => `(tactic| first
  | walk_at "g0"
  | ((with_reducible refine gLs ?_ ?_); (exact small_le (by simp))))
local macro_rules | `(tactic| walk_at "g2") => `(tactic| first
  | walk_at "gq"
  | with_reducible refine gAnd ?_
  | with_reducible refine gOr ?_)
local macro_rules | `(tactic| walk_at "go") => `(tactic| repeat walk_at "g2")
local macro_rules | `(tactic| walk_at "gp") => `(tactic| repeat walk_at "gq")
local macro_rules | `(tactic| walk_at "gn") => `(tactic| repeat (first | walk_at "g0" | with_reducible refine gAnd ?_ | with_reducible refine gOr ?_))

section
variable {P : Program} {w : World} {K : PySem.W.Frag} {mg : Str → Option Value} {base : Heap}

/-! ### prenex -/
def preF (f : Fm) : Fm × List Bool := f.pull true id 0
abbrev preD (f : Fm) : D := .tup [.tup (qsD 0 (preF f).2), (preF f).1.enc]
structure Clo (f : Fm) : Prop where
  inn : f.inn [] = true
  mu : f.mu ≤ 112
  wid : f.wid ≤ 1000
  qn : f.qn ≤ 60
  nn : f.nn ≤ 400
  dd : f.dd ≤ 40
  nd : f.nodes ≤ 10000
  nm : f.named okName = true
  dp : f.depth ≤ 80
def S_prenex : DSp := fun ds ω x k => ∃ f : Fm, ds = [f.enc] ∧ Clo f ∧ k (preD f) ω
theorem ok_prenex {v_MAX_LETTERS v_MAX_NODES v_MAX_NEST : V} (u_prenex : Tx K mg "prenex" s_prenex ["formula"]) (z_zip : mg "zip" = none) (h_pulled : Df false P w K mg base CX0 226 "pulled" s_pulled ["formula", "is_yes", "names", "quantifiers"] (S_pulled 112)) (h_free_names : Df false P w K mg base CX0 115 "free_names" s_free_names ["formula"] S_free_names) (h_pulled_sizes : Df false P w K mg base CX0 114 "pulled_sizes" s_pulled_sizes ["formula"] (S_pulled_sizes 112)) (c_MAX_LETTERS : CstD K mg "MAX_LETTERS" v_MAX_LETTERS (.int 60)) (c_MAX_NODES : CstD K mg "MAX_NODES" v_MAX_NODES (.int 400)) (c_MAX_NEST : CstD K mg "MAX_NEST" v_MAX_NEST (.int 40)) (z_tuple : mg "tuple" = none) : Df false P w K mg base CX0 227 "prenex" s_prenex ["formula"] S_prenex := by
  refine u_prenex.dfy sc_prenex (fun ds ω x k h => by obtain ⟨f, rfl, _⟩ := h; rfl) fun f_ cdv A out s_ H_ hG hr => ?_
  have nd := sc_prenex.nd
  refine ⟨_, _, (yss_cons (ys_if (yt_cmp (yo_ne hr.units) (ye_call h_free_names gF (hr.mono (by omega)) passAll (ya_cons (yv 0) ya_nil)) (ye_tup ya_nil)) (yss_one ys_never) yss_nil)
    (yss_cons (ys_for PassesOwn.never rfl (yi_zip z_zip (ya_cons (ye_call h_pulled_sizes gF (hr.mono (by omega)) passAll (ya_cons (yv 0) ya_nil)) (ya_cons (ye_tup (ya_cons (yg c_MAX_LETTERS) (ya_cons (yg c_MAX_NODES) (ya_cons (yg c_MAX_NEST) ya_nil)))) ya_nil))) (yg_tup rfl (ygs_cons (yg_name (i := 1) nd) (ygs_cons (yg_name (i := 2) nd) ygs_nil))) (yss_one (ys_if (yt_cmp yo_gt (yv 1) (yv 2)) (yss_one ys_never) yss_nil)))
    (yss_cons (ys_set (i := 3) nd (ye_lst ya_nil))
    (yss_cons (ys_set (i := 4) nd (ye_call h_pulled gF (hr.mono (by omega)) passAll (ya_cons (yv 0) (ya_cons ybl (ya_cons ye_dnew (ya_cons (yv 3) ya_nil))))))
    (yss_one (ys_ret (ye_tup (ya_cons (ye_ct yc_tuple z_tuple PyProof.Rows.boot_tuple (ya_cons (yv 3) ya_nil)) (ya_cons (yv 4) ya_nil))))))))), fun ds ω x k h => ?_⟩
  obtain ⟨f, rfl, h, q⟩ := h
  obtain ⟨h1, h2, h3, h4, h5, h6, _, _, _⟩ := h
  have hd := depth_mu f
  walk_at "go"
  refine ⟨f, rfl, h1, by omega, h3, ?_⟩
  walk_at "go"
  refine vNeT0 ?_
  walk_at "go"
  refine gForZ fun k0 hk0 => ?_
  walk_at "go"
  refine ⟨f, rfl, by omega, h3, ?_⟩
  walk_at "go"
  refine hk0 _ _ (gZp ?_)
  refine gForC ?_
  walk_at "go"
  refine gIff (decide_eq_false (by omega)) ?_
  walk_at "go"
  refine gForC ?_
  walk_at "go"
  refine gIff (decide_eq_false (by omega)) ?_
  walk_at "go"
  refine gForC ?_
  walk_at "go"
  refine gIff (decide_eq_false (by omega)) ?_
  walk_at "go"
  refine gForN ?_
  walk_at "go"
  intro pq hpq
  walk_at "go"
  intro pn hpn
  walk_at "go"
  have n1 : pn ≠ pq := fun e => by rw [e, sup_same] at hpn; cases hpn
  have hpn0 : ω pn = none := by rw [← hpn]; exact (sup_ne n1).symm
  refine ⟨f, true, pn, pq, [], [], id, [], rfl, sup_same, ⟨fun x hx => (by cases hx), Nat.le_refl _⟩, .nil, h1, by rw [sup_ne n1.symm, sup_same]; rfl, h2, h3, by show 0 + 112 ≤ _; omega, by omega, by show 0 + f.qn ≤ 150; omega, fun ω' o1 o2 => ?_⟩
  walk_at "go"
  refine vTupP o1 ?_
  walk_at "go"
  refine .dr q fun a c ha => ?_
  have np : a ≠ pq := fun e => by rw [e, hpq] at ha; cases ha
  have nn : a ≠ pn := fun e => by rw [e, hpn0] at ha; cases ha
  rw [o2 a np (by rw [sup_ne nn, sup_ne np, ha]; exact Option.some_ne_none _), sup_ne nn, sup_ne np]
  exact ha
/-! ### _law_remade, _law_has_each -/
theorem cutN {l : List D} {m : Nat} {i : Int} (h : i = (m : Int)) : cutD l none (some i) = l.take m := by
  rw [cut_take _ (by omega), h, Int.toNat_natCast]
def S_remade : DSp := fun ds ω x k => ∃ (f : Fm) (ps : List D), ds = [f.enc, .tup ps] ∧ f.isB = false ∧ f.isL = false ∧ (f.isRow = false → ps.length = f.parts.length) ∧ ps.length ≤ 1000 ∧ k (wpD f ps) ω
theorem ok__law_remade (u__law_remade : Tx K mg "_law_remade" s__law_remade ["f", "parts"]) (z_len : mg "len" = none) : Df false P w K mg base CX0 1 "_law_remade" s__law_remade ["f", "parts"] S_remade := by
  refine u__law_remade.dfy sc__law_remade (fun ds ω x k h => by obtain ⟨f, ps, rfl, _⟩ := h; rfl) fun f_ cdv A out s_ H_ hG hr => ?_
  have nd := sc__law_remade.nd
  refine ⟨_, _, (yss_cons (ys_if (yt_cmp (yo_eq hr.units) (ye_ix (yi_any (hu_of hr)) (yv 0) yint) ystr) (yss_one (ys_ret (yv 0))) yss_nil)
    (yss_one (ys_ret (ye_if (yt_cmp (yo_in (hu_of hr)) (ye_ix (yi_any (hu_of hr)) (yv 0) yint) (ye_tup (ya_cons ystr (ya_cons ystr ya_nil)))) (ye_tup (ya_cons (ye_ix (yi_any (hu_of hr)) (yv 0) yint) (ya_cons (yv 1) ya_nil))) (ye_bin yo_add (ye_slice yl_any (yv 0) yp_none (yp_some (ye_bin yo_sub (ye_cb yc_len z_len PySem.boot_len (ya_cons (yv 0) ya_nil)) (ye_cb yc_len z_len PySem.boot_len (ya_cons (yv 1) ya_nil))))) (yv 1)))))), fun ds ω x k h => ?_⟩
  obtain ⟨f, ps, e, h1, h2, h3, h4, q⟩ := h
  cases f with
  | lt y => cases h2
  | nt f =>
    have e : ds = [.tup [.str "not", f.enc], .tup ps] := e
    have hl : ps.length = 1 := h3 rfl
    subst e
    walk_at "go"
    refine vSlT ?_
    rw [cutN (m := 1) (by rw [hl]; rfl)]
    walk_at "go"
    refine vAddT (small_le (by show 1 + _ ≤ _; omega)) ?_
    walk_at "go"
    exact .of q
  | row b fs =>
    cases b with
    | true =>
      have e : ds = [.tup [.str "and", .tup (Fm.encs fs)], .tup ps] := e
      subst e
      walk_at "go"
      exact .of q
    | false =>
      have e : ds = [.tup [.str "or", .tup (Fm.encs fs)], .tup ps] := e
      subst e
      walk_at "go"
      exact .of q
  | sm f g =>
    have e : ds = [.tup [.str "same", f.enc, g.enc], .tup ps] := e
    have hl : ps.length = 2 := h3 rfl
    subst e
    walk_at "go"
    refine vSlT ?_
    rw [cutN (m := 1) (by rw [hl]; rfl)]
    walk_at "go"
    refine vAddT (small_le (by show 1 + _ ≤ _; omega)) ?_
    walk_at "go"
    exact .of q
  | qt b y f => cases h1
theorem ok__law_has_each (u__law_has_each : Tx K mg "_law_has_each" s__law_has_each ["f"]) (h__law_parts_of : Df false P w K mg base CX0 1 "_law_parts_of" s__law_parts_of ["f"] S_parts_of) : ∀ n, Df false P w K mg base CX0 (n + 1) "_law_has_each" s__law_has_each ["f"] (S_has_binder n) := by
  intro n
  induction n with
  | zero => exact u__law_has_each.no fun ds ω x k ⟨f, _, h, _⟩ => by have := depth_pos f; omega
  | succ n h__law_has_each =>
  refine u__law_has_each.dfy sc__law_has_each (fun ds ω x k h => by obtain ⟨f, rfl, _⟩ := h; rfl) fun f_ cdv A out s_ H_ hG hr => ?_
  have nd := sc__law_has_each.nd
  refine ⟨_, _, (yss_one (ys_ret (ye_or (ye_cmp (yo_in (hu_of hr)) (ye_ix (yi_any (hu_of hr)) (yv 0) yint) (ye_tup (ya_cons ystr (ya_cons ystr ya_nil)))) (ye_one (ye_cmp (yo_ne hr.units) (ye_lc (own := [("own", 1)]) rfl nd (yi_seq (ye_call h__law_parts_of gF (hr.mono (by omega)) passAll (ya_cons (yv 0) ya_nil))) (blkOk_by (by kernel_rfl)) (og_name (by decide)) (fun _ _ _ _ _ => (yg_name (i := 1) nd)) (fun _ _ _ _ _ => (yts_one (yt_val (ye_call h__law_has_each gF (hr.mono (by omega)) passAll (ya_cons (yv 1) ya_nil))))) (fun _ _ _ _ _ => yint)) (ye_lst ya_nil)))))), fun ds ω x k h => ?_⟩
  obtain ⟨f, e, hd, hn, q⟩ := h
  have turn : ∀ (ρ : Rho) (s1 : Option D) (f : Fm), ρ = [some f.enc, s1] → f.depth ≤ n + 1 → f.wid ≤ 1000 → ∀ (ω : Store) (x : KX) (k : KV), k (.lst ((f.parts.filter fun g => !g.plain).map fun _ => D.int 1)) ω → dLc (diSeq (dCB S_parts_of (dCons (dVar 0) dNil))) (gdName 1) (dTest (dCB (S_has_binder n) (dCons (dVar 1) dNil))) (dC (.int 1)) [1] ρ ω x k := by
    intro ρ s1 f e hd hn ω x k q
    subst e
    refine lc_filt f.parts Fm.enc (fun g => !g.plain) (fun _ => .int 1) (fun k0 h => ?_) (small_lt (by have := parts_wid f; omega)) (fun g hg ω' k1 q1 => ?_) q
    · walk_at "go"
      exact ⟨f, rfl, h _ (.inr (.inr rfl))⟩
    · walk_at "go"
      have h1 := part_depth hg
      have h2 := part_wid hg
      refine ⟨g, rfl, by omega, by omega, ?_⟩
      walk_at "go"
      exact q1 _ fun _ k2 h => h
  have fin : ∀ (fs : List Fm) (ω : Store) (x : KX) (k : KV), k (.bl (!Fm.plains fs)) ω → sNe (.lst ((fs.filter fun g => !g.plain).map fun _ => D.int 1)) (.lst []) ω x k := by
    intro fs ω x k q
    have e : ((fs.filter fun g => !g.plain).map fun _ => D.int 1) = ((fs.filter fun g => !g.plain).map fun _ => (1 : Int)).map D.int := by rw [List.map_map]; rfl
    rw [e]
    refine vNeNil (.lst (py_ints _)) (lay_ints _) ?_
    have e2 : ∀ fs : List Fm, (((fs.filter fun g => !g.plain).map fun _ => (1 : Int)).map PyData.int).isEmpty = Fm.plains fs := by
      intro fs
      induction fs with
      | nil => rfl
      | cons a fs ih =>
        show _ = (a.plain && Fm.plains fs)
        cases h : a.plain with
        | true =>
          rw [List.filter_cons_of_neg (by rw [h]; decide), ih, Bool.true_and]
        | false =>
          rw [List.filter_cons_of_pos (by rw [h]; rfl)]
          rfl
    rw [e2]
    exact q
  cases f with
  | lt y =>
    have e : ds = [.tup [.str "letter", .str y]] := e
    subst e
    walk_at "go"
    refine turn _ _ (.lt y) rfl hd hn _ _ _ ?_
    walk_at "go"
    exact fin [] _ _ _ (RtK.of q)
  | nt f =>
    have e : ds = [.tup [.str "not", f.enc]] := e
    subst e
    walk_at "go"
    refine turn _ _ (.nt f) rfl hd hn _ _ _ ?_
    walk_at "go"
    exact fin [f] _ _ _ (RtK.of (by show k (.bl (!(f.plain && true))) ω; rw [Bool.and_true]; exact q))
  | row b fs =>
    cases b with
    | true =>
      have e : ds = [.tup [.str "and", .tup (Fm.encs fs)]] := e
      subst e
      walk_at "go"
      refine turn _ _ (.row true fs) rfl hd hn _ _ _ ?_
      walk_at "go"
      exact fin fs _ _ _ (RtK.of q)
    | false =>
      have e : ds = [.tup [.str "or", .tup (Fm.encs fs)]] := e
      subst e
      walk_at "go"
      refine turn _ _ (.row false fs) rfl hd hn _ _ _ ?_
      walk_at "go"
      exact fin fs _ _ _ (RtK.of q)
  | sm f g =>
    have e : ds = [.tup [.str "same", f.enc, g.enc]] := e
    subst e
    walk_at "go"
    refine turn _ _ (.sm f g) rfl hd hn _ _ _ ?_
    walk_at "go"
    exact fin [f, g] _ _ _ (RtK.of (by show k (.bl (!(f.plain && (g.plain && true)))) ω; rw [Bool.and_true]; exact q))
  | qt b y f =>
    cases b with
    | true =>
      have e : ds = [.tup [.str "each", .str y, f.enc]] := e
      subst e
      walk_at "go"
      exact .of q
    | false =>
      have e : ds = [.tup [.str "some", .str y, f.enc]] := e
      subst e
      walk_at "go"
      exact .of q
end
end L3
namespace L3
open PySem L2 PySem.Spec PyProof.Rows
open PySem (PyData)
local macro_rules | `(tactic| walk_at "g1") => `(tactic| with_reducible first
  | refine gSeq ?_ | refine gIfS ?_ | refine gTest ?_ | refine gOp ?_ | refine gCons ?_ | refine gNil ?_ | refine gC ?_ | refine gCB ?_ | refine gAsgNew ?_ | refine gAsg ?_ | refine gRet ?_ | refine gTup ?_ | refine gLst ?_
  | refine gBl ?_ | refine gName ?_ | refine gNot ?_ | refine gAndV ?_ | refine gOrV ?_ | refine gNotV ?_ | refine gIf ?_ | refine gTru ?_ | refine gTrB ?_ | refine gTrT ?_ | refine gTrL ?_ | refine gUn ?_ | refine gDrop ?_ | refine gNext ?_ | refine gSub ?_ | refine gSl ?_ | refine gPart ?_ | refine gPa ?_ | refine gNoP ?_ | refine gPar ?_ | refine gPar3 ?_ | refine gPar32 ?_ | refine gRev ?_ | refine gRvF ?_ | refine gPar2 ?_ | refine gNx ?_ | refine gRtS ?_ | refine gCtS ?_ | refine gBkS ?_ | refine gNxL ?_ | refine gCtL ?_ | refine gBkL ?_ | refine gRtL ?_ | refine gRtU ?_ | refine gNxU ?_ | refine gFor ?_ | refine gForC ?_ | refine gForN ?_ | refine gBM ?_ | refine gBM0 ?_ | refine gCallK ?_
  | refine gdConsI ?_ | refine gdNilI ?_ | refine vEqS ?_ | refine vEqI ?_ | refine vEqB ?_ | refine vNeS ?_ | refine vNeI ?_ | refine vNeB ?_ | refine vAddI ?_ | refine vSub ?_ | refine vNeg ?_ | refine vLt ?_ | refine vLe ?_ | refine vGt ?_ | refine vGe ?_ | refine vMax2 ?_ | refine vMin2 ?_ | refine vAbs ?_ | refine vIntI ?_ | refine vIntB ?_ | refine vLenF ?_ | refine vLenQ ?_ | refine vLenT ?_ | refine vSumF ?_ | refine vAnyF ?_ | refine vAllF ?_ | refine vTupF ?_ | refine vTupT ?_ | refine vSlT1 ?_ | refine vSlT2 ?_)
local macro_rules | `(tactic| walk_at "g0") => `(tactic| first
  | walk_at "g1"
  | ((with_reducible apply gVar); (exact rfl))
  | ((with_reducible apply vIxT); (exact rfl))
  | ((with_reducible apply vIxF); (exact rfl))
  | ((with_reducible refine vInTb ?_ ?_ ?_); (exact rfl); (exact rfl))
  | ((with_reducible refine vNinTb ?_ ?_ ?_); (exact rfl); (exact rfl))
  | ((with_reducible refine vInLb ?_ ?_ ?_); (exact rfl); (exact rfl))
  | ((with_reducible refine vNinLb ?_ ?_ ?_); (exact rfl); (exact rfl))
  | ((with_reducible refine gdTupT ?_ ?_); (exact rfl))
  | ((with_reducible refine gdTupL ?_ ?_); (exact rfl))
  | ((with_reducible refine gTu ?_ ?_); (exact small_le (by simp)))
  | ((with_reducible refine gIt ?_ ?_); (first | exact rfl | exact decide_eq_true rfl | decide +kernel))
  | ((with_reducible refine gIff ?_ ?_); (first | exact rfl | decide +kernel)))
local macro_rules | `(tactic| walk_at "gq") => `(tactic| first
  | walk_at "g0"
  | ((with_reducible refine gLs ?_ ?_); (exact small_le (by simp))))
local macro_rules | `(tactic| walk_at "g2") => `(tactic| first
  | walk_at "gq"
  | with_reducible refine gAnd ?_
  | with_reducible refine gOr ?_)
local macro_rules | `(tactic| walk_at "go") => `(tactic| repeat walk_at "g2")
local macro_rules | `(tactic| walk_at "gp") => `(tactic| repeat walk_at "gq")
local macro_rules | `(tactic| walk_at "gn") => `(tactic| repeat (first | walk_at "g0" | with_reducible refine gAnd ?_ | with_reducible refine gOr ?_))

section
variable {P : Program} {w : World} {K : PySem.W.Frag} {mg : Str → Option Value} {base : Heap}

/-! ### _law_put_ahead -/
set_option maxHeartbeats 4000000 in
theorem ok__law_put_ahead (u__law_put_ahead : Tx K mg "_law_put_ahead" s__law_put_ahead ["f", "side", "names", "found"]) (h__law_remade : Df false P w K mg base CX0 1 "_law_remade" s__law_remade ["f", "parts"] S_remade) (h__law_has_each : Df false P w K mg base CX0 113 "_law_has_each" s__law_has_each ["f"] (S_has_binder 112)) (z_tuple : mg "tuple" = none) (z_dict : mg "dict" = none) (z_str : mg "str" = none) (h__law_parts_of : Df false P w K mg base CX0 1 "_law_parts_of" s__law_parts_of ["f"] S_parts_of) (z_len : mg "len" = none) : ∀ n, Df false P w K mg base CX0 (n + 114) "_law_put_ahead" s__law_put_ahead ["f", "side", "names", "found"] (S_pulled n) := by
  intro n
  induction n with
  | zero => exact u__law_put_ahead.no fun ds ω x k ⟨f, _, _, _, _, _, _, _, _, _, _, _, _, _, h, _⟩ => by have := depth_mu f; have := depth_pos f; omega
  | succ n h__law_put_ahead =>
  refine u__law_put_ahead.dfy sc__law_put_ahead (fun ds ω x k h => by obtain ⟨f, b, pn, pq, kvs, ns, ν, qs, rfl, _⟩ := h; rfl) fun f_ cdv A out s_ H_ hG hr => ?_
  have nd := sc__law_put_ahead.nd
  refine ⟨_, _, (yss_cons (ys_set (i := 4) nd (ye_ix (yi_any (hu_of hr)) (yv 0) yint))
    (yss_cons (ys_if (yt_cmp (yo_eq hr.units) (yv 4) ystr) (yss_one (ys_ret (ye_tup (ya_cons ystr (ya_cons (ye_ix (yi_any (hu_of hr)) (yv 2) (ye_ix (yi_any (hu_of hr)) (yv 0) yint)) ya_nil))))) yss_nil)
    (yss_cons (ys_if (yt_cmp (yo_eq hr.units) (yv 4) ystr) (yss_one (ys_ret (ye_tup (ya_cons ystr (ya_cons (ye_call h__law_put_ahead gF (hr.mono (by omega)) passAll (ya_cons (ye_ix (yi_any (hu_of hr)) (yv 0) yint) (ya_cons (ye_not (yv 1)) (ya_cons (yv 2) (ya_cons (yv 3) ya_nil))))) ya_nil))))) yss_nil)
    (yss_cons (ys_if (yt_cmp (yo_in (hu_of hr)) (yv 4) (ye_tup (ya_cons ystr (ya_cons ystr ya_nil)))) (yss_cons (ys_par (i := 5) (j := 6) rfl nd (ya_cons (ye_bin yo_add ystr (ye_ct yc_strI z_str PyProof.Rows.boot_str (ya_cons (ye_bin yo_add (ye_cb yc_len z_len PySem.boot_len (ya_cons (yv 3) ya_nil)) yint) ya_nil))) (ya_cons (ye_ct (yc_dictP rfl) z_dict PyProof.Rows.boot_dict (ya_cons (ye_lock (ye_lc (own := [("name", 7)]) rfl nd (yi_keys (yv 2)) (blkOk_by (by kernel_rfl)) (og_name (by decide)) (fun _ _ _ _ _ => (yg_name (i := 7) nd)) (fun _ _ _ _ _ => yts_nil) (fun _ _ _ _ _ => (ye_tup (ya_cons (yv 7) (ya_cons (ye_ix (yi_any (hu_of hr)) (yv 2) (yv 7)) ya_nil)))))) ya_nil)) ya_nil)))
    (yss_cons (ys_set (i := 8) nd (ye_if (yt_cmp (yo_eq hr.units) (yv 4) ystr) ystr ystr))
    (yss_cons (ys_expr (ye_append (yv 3) (ya_cons (ye_tup (ya_cons (ye_if (yt_tru (yv 1)) (yv 4) (yv 8)) (ya_cons (yv 5) ya_nil))) ya_nil)))
    (yss_cons (ys_asg (yv 5) (yg_sub (hu_of hr) (yv 6) (ye_ix (yi_any (hu_of hr)) (yv 0) yint)))
    (yss_one (ys_ret (ye_call h__law_put_ahead gF (hr.mono (by omega)) passAll (ya_cons (ye_ix (yi_any (hu_of hr)) (yv 0) yint) (ya_cons (yv 1) (ya_cons (yv 6) (ya_cons (yv 3) ya_nil))))))))))) yss_nil)
    (yss_cons (ys_if (YW.yt (yw_and (yt_cmp (yo_eq hr.units) (yv 4) ystr) (yw_and1 (yt_val (ye_call h__law_has_each gF (hr.mono (by omega)) passAll (ya_cons (yv 0) ya_nil)))))) (yss_cons (ys_set (i := 9) nd (ye_tup (ya_cons (ye_tup (ya_cons ystr (ya_cons (ye_tup (ya_cons (ye_ix (yi_any (hu_of hr)) (yv 0) yint) (ya_cons (ye_ix (yi_any (hu_of hr)) (yv 0) yint) ya_nil))) ya_nil))) (ya_cons (ye_tup (ya_cons ystr (ya_cons (ye_tup (ya_cons (ye_tup (ya_cons ystr (ya_cons (ye_ix (yi_any (hu_of hr)) (yv 0) yint) ya_nil))) (ya_cons (ye_tup (ya_cons ystr (ya_cons (ye_ix (yi_any (hu_of hr)) (yv 0) yint) ya_nil))) ya_nil))) ya_nil))) ya_nil))))
    (yss_one (ys_ret (ye_call h__law_put_ahead gF (hr.mono (by omega)) passAll (ya_cons (ye_tup (ya_cons ystr (ya_cons (yv 9) ya_nil))) (ya_cons (yv 1) (ya_cons (yv 2) (ya_cons (yv 3) ya_nil)))))))) yss_nil)
    (yss_one (ys_ret (ye_call h__law_remade gF (hr.mono (by omega)) passAll (ya_cons (yv 0) (ya_cons (ye_ct yc_tuple z_tuple PyProof.Rows.boot_tuple (ya_cons (ye_lc (own := [("own", 10)]) rfl nd (yi_seq (ye_call h__law_parts_of gF (hr.mono (by omega)) passAll (ya_cons (yv 0) ya_nil))) (blkOk_by (by kernel_rfl)) (og_name (by decide)) (fun _ _ _ _ _ => (yg_name (i := 10) nd)) (fun _ _ _ _ _ => yts_nil) (fun _ _ _ _ _ => (ye_call h__law_put_ahead gF (hr.mono (by omega)) passAll (ya_cons (yv 10) (ya_cons (yv 1) (ya_cons (yv 2) (ya_cons (yv 3) ya_nil))))))) ya_nil)) ya_nil)))))))))), fun ds ω x k h => ?_⟩
  obtain ⟨f, b, pn, pq, kvs, ns, ν, qs, e, h1, h2, h3, h4, h5, h6, h7, h8, h9, h10, q⟩ := h
  have pin : f.isB = false → ∀ g ∈ f.parts, g.inn ns = true := fun nb g hg => part_inn (fun b x h z => by rw [z] at nb; cases nb) h4 hg
  have lenQ : (Fm.encs (Fm.pulls f.parts b ν qs.length).1).length = f.parts.length := by rw [encs_map, List.length_map, pulls_lenF]
  have lenP : (Fm.encs (Fm.pulls f.parts b ν qs.length).1).length ≤ 1000 := by
    have := parts_wid f
    omega
  cases f with
  | lt y =>
    have e : ds = [.tup [.str "letter", .str y], .bl b, .ptr pn, .ptr pq] := e
    subst e
    walk_at "go"
    refine vIxK h1 (h2.1 y (List.contains_iff_mem.mp h4)) ?_
    walk_at "go"
    exact .of (q ω (by show _ = some (Cell.lst (qsD 0 (qs ++ []))); rw [List.append_nil]; exact h5) .refl)
  | nt f =>
    have e : ds = [.tup [.str "not", f.enc], .bl b, .ptr pn, .ptr pq] := e
    subst e
    have m1 : f.mu + 1 ≤ n + 1 := h6
    have m2 : f.mu + 1 ≤ 112 := h9
    walk_at "go"
    refine ⟨f, !b, pn, pq, kvs, ns, ν, qs, rfl, h1, h2, h3, h4, h5, by omega, h7, by omega, by omega, h10, fun ω' o1 o2 => ?_⟩
    walk_at "go"
    exact .of (q ω' o1 o2)
  | row c fs =>
    cases c with
    | true =>
      have e : ds = [.tup [.str "and", .tup (Fm.encs fs)], .bl b, .ptr pn, .ptr pq] := e
      subst e
      walk_at "go"
      refine turn_pull (f := .row true fs) (b := b) h1 h2 h3 (pin rfl) h5 h6 h7 (by omega) h9 h10 (fun k0 h => ?_) (fun a ω1 k1 h => ?_) fun ω' o1 o2 => ?_
      · walk_at "go"
        exact ⟨.row true fs, rfl, h _ (.inr (.inr rfl))⟩
      · walk_at "go"
        exact h
      · walk_at "go"
        refine ⟨.row true fs, _, rfl, rfl, rfl, fun z => (by cases z), lenP, ?_⟩
        exact .of (q ω' o1 o2)
    | false =>
      have e : ds = [.tup [.str "or", .tup (Fm.encs fs)], .bl b, .ptr pn, .ptr pq] := e
      subst e
      walk_at "go"
      refine turn_pull (f := .row false fs) (b := b) h1 h2 h3 (pin rfl) h5 h6 h7 (by omega) h9 h10 (fun k0 h => ?_) (fun a ω1 k1 h => ?_) fun ω' o1 o2 => ?_
      · walk_at "go"
        exact ⟨.row false fs, rfl, h _ (.inr (.inr rfl))⟩
      · walk_at "go"
        exact h
      · walk_at "go"
        refine ⟨.row false fs, _, rfl, rfl, rfl, fun z => (by cases z), lenP, ?_⟩
        exact .of (q ω' o1 o2)
  | sm f g =>
    have e : ds = [.tup [.str "same", f.enc, g.enc], .bl b, .ptr pn, .ptr pq] := e
    subst e
    have dm := depth_mu (.sm f g)
    walk_at "go"
    refine ⟨.sm f g, rfl, by omega, h7, ?_⟩
    walk_at "go"
    cases hp : (f.plain && g.plain) with
    | true =>
      refine gIff (show (!(f.plain && g.plain)) = false by rw [hp]; rfl) ?_
      walk_at "go"
      have hz : f.qn = 0 ∧ g.qn = 0 := by
        have z : 2 * (f.qn + g.qn) = 0 := qn_plain (.sm f g) hp
        omega
      have e1 : (f.pull b ν qs.length).2 = [] := List.length_eq_zero_iff.mp (by rw [pull_len, hz.1])
      have e2 : (g.pull b ν qs.length).2 = [] := List.length_eq_zero_iff.mp (by rw [pull_len, hz.2])
      have e3 : Fm.pulls [f, g] b ν qs.length = ([(f.pull b ν qs.length).1, (g.pull b ν qs.length).1], []) := by
        simp only [Fm.pulls, e1, e2, List.length_nil, Nat.add_zero, List.append_nil]
      refine turn_pull (f := .sm f g) (b := b) h1 h2 h3 (pin rfl) h5 h6 h7 (by omega) h9 (by show _ + (f.qn + (g.qn + 0)) ≤ 150; omega) (fun k0 h => ?_) (fun a ω1 k1 h => ?_) fun ω' o1 o2 => ?_
      · walk_at "go"
        exact ⟨.sm f g, rfl, h _ (.inr (.inr rfl))⟩
      · walk_at "go"
        exact h
      · walk_at "go"
        refine ⟨.sm f g, _, rfl, rfl, rfl, fun _ => lenQ, lenP, ?_⟩
        rw [pull_sm0 hp] at q
        have o3 : ω' pq = some (.lst (qsD 0 (qs ++ (Fm.pulls [f, g] b ν qs.length).2))) := o1
        rw [e3] at o3
        show RtK k (wpD (Fm.sm f g) (Fm.encs (Fm.pulls [f, g] b ν qs.length).1)) ω'
        rw [e3]
        exact .of (q ω' o3 o2)
    | false =>
      refine gIt (show (!(f.plain && g.plain)) = true by rw [hp]; rfl) ?_
      walk_at "go"
      have m1 : max f.mu g.mu + 4 ≤ n + 1 := h6
      have m2 : max f.mu g.mu + 4 ≤ 112 := h9
      have m3 : max f.wid g.wid ≤ 1000 := h7
      have m4 : qs.length + 2 * (f.qn + g.qn) ≤ 150 := h10
      have m5 : f.inn ns = true ∧ g.inn ns = true := by rw [← Bool.and_eq_true]; exact h4
      refine ⟨spread f g, b, pn, pq, kvs, ns, ν, qs, rfl, h1, h2, h3, ?_, h5, ?_, ?_, by omega, ?_, ?_, fun ω' o1 o2 => ?_⟩
      · show ((f.inn ns && (g.inn ns && true)) && ((f.inn ns && (g.inn ns && true)) && true)) = true
        rw [m5.1, m5.2]
        rfl
      · show max (max f.mu (max g.mu 0) + 1) (max (max (f.mu + 1) (max (g.mu + 1) 0) + 1) 0) + 1 ≤ n
        omega
      · show max 2 (max (max 2 (max f.wid (max g.wid 0))) (max (max 2 (max f.wid (max g.wid 0))) 0)) ≤ 1000
        omega
      · show max (max f.mu (max g.mu 0) + 1) (max (max (f.mu + 1) (max (g.mu + 1) 0) + 1) 0) + 1 ≤ 112
        omega
      · show _ + (f.qn + (g.qn + 0) + (f.qn + (g.qn + 0) + 0)) ≤ 150
        omega
      · rw [pull_sm1 hp] at q
        exact .of (q ω' o1 o2)
  | qt c y f =>
    have m1 : f.mu + 1 ≤ n + 1 := h6
    have m2 : f.mu + 1 ≤ 112 := h9
    have m4 : qs.length + (f.qn + 1) ≤ 150 := h10
    have hlen : D.int ((((qsD 0 qs).length : Nat) : Int) + 1) = .int ((qs.length + 1 : Nat) : Int) := by rw [qsD_len]; rfl
    have frl : ("v" : Str).length + (toString ((qs.length + 1 : Nat) : Int) : Str).length ≤ sizeLine := by
      have h := (okName_of (fr_ok (n := qs.length + 1) (by omega))).1
      have e : (fr (qs.length + 1)).length = ("v" : Str).length + (toString ((qs.length + 1 : Nat) : Int) : Str).length := by
        unfold fr
        exact PySem.Str.length_append _ _
      rw [← e]
      exact small_le (by omega)
    have swap : ∀ (r : Addr), r ≠ pq → ∀ (c1 c2 c3 : Cell), sup (sup (sup ω r c1) pq c2) r c3 = sup (sup ω r c3) pq c2 := by
      intro r nr c1 c2 c3
      funext a
      unfold sup
      by_cases e1 : a = r
      · rw [if_pos e1, if_neg (by rw [e1]; exact nr), if_pos e1]
      · rw [if_neg e1, if_neg e1, if_neg e1]
    have main : ∀ (z : Bool), z = (if b then c else !c) → ∀ (qd_ : Addr), ω qd_ = none → ∀ (X1 : KX) (k1 : KV), (∀ ω', ω' pq = some (.lst (qsD 0 (qs ++ ((Fm.qt c y f).pull b ν qs.length).2))) → Kc (fun a => a = pq) ω ω' → k1 ((Fm.qt c y f).pull b ν qs.length).1.enc ω') →
        S_pulled n [f.enc, .bl b, .ptr qd_, .ptr pq] (sup (sup ω qd_ (.dK (putD kvs (.inr y) (.str (fr (qs.length + 1)))))) pq (.lst (qsD 0 qs ++ [.tup [.str (qd z), .str (fr (qs.length + 1))]]))) X1 k1 := by
      intro z hz r hr X1 k1 hk
      have n1 : pq ≠ r := fun e => by rw [e, hr] at h5; cases h5
      refine ⟨f, b, r, pq, _, ns ++ [y], set1 ν y (fr (qs.length + 1)), qs ++ [z], rfl, by rw [sup_ne n1.symm, sup_same], h2.put, h3.put, h4, ?_, by omega, h7, by rw [List.length_append]; show ns.length + 1 + n ≤ _; omega, by omega, by rw [List.length_append]; show qs.length + 1 + f.qn ≤ _; omega, fun ω' o1 o2 => ?_⟩
      · rw [sup_same, qsD_app, Nat.zero_add]
        rfl
      · have el : (qs ++ [z]).length = qs.length + 1 := List.length_append
        rw [el] at o1 ⊢
        refine hk ω' ?_ ((Kc.new hr).tr ((Kc.put (Ch := fun a => a = pq) (p := pq) rfl).tr o2))
        rw [o1, List.append_assoc, hz]
        rfl
    cases c with
    | true =>
      have e : ds = [.tup [.str "each", .str y, f.enc], .bl b, .ptr pn, .ptr pq] := e
      subst e
      walk_at "go"
      refine vLenP h5 ?_
      walk_at "go"
      rw [hlen]
      refine vStr (by omega) ?_
      walk_at "go"
      refine vAddS frl ?_
      refine dcopy (i := 2) (j := 7) rfl rfl (by decide) (by show 7 < 11; omega) h1 h3 (by have := h2.2; omega) fun r hr => ?_
      have n1 : pq ≠ r := fun e => by rw [e, hr] at h5; cases h5
      walk_at "go"
      refine ⟨⟨_, .ce (by rw [sup_ne n1]; exact h5)⟩, ?_⟩
      cases b with
      | true =>
        walk_at "go"
        refine vAppend (by rw [sup_ne n1]; exact h5) (by rw [qsD_len]; omega) ?_
        walk_at "go"
        refine vSetK (by rw [sup_ne n1.symm, sup_same]) (by have := h2.2; omega) ?_
        rw [swap r n1.symm]
        walk_at "go"
        exact main true rfl r hr _ _ fun ω' o1 o2 => .of (q ω' o1 o2)
      | false =>
        walk_at "go"
        refine vAppend (by rw [sup_ne n1]; exact h5) (by rw [qsD_len]; omega) ?_
        walk_at "go"
        refine vSetK (by rw [sup_ne n1.symm, sup_same]) (by have := h2.2; omega) ?_
        rw [swap r n1.symm]
        walk_at "go"
        exact main false rfl r hr _ _ fun ω' o1 o2 => .of (q ω' o1 o2)
    | false =>
      have e : ds = [.tup [.str "some", .str y, f.enc], .bl b, .ptr pn, .ptr pq] := e
      subst e
      walk_at "go"
      refine vLenP h5 ?_
      walk_at "go"
      rw [hlen]
      refine vStr (by omega) ?_
      walk_at "go"
      refine vAddS frl ?_
      refine dcopy (i := 2) (j := 7) rfl rfl (by decide) (by show 7 < 11; omega) h1 h3 (by have := h2.2; omega) fun r hr => ?_
      have n1 : pq ≠ r := fun e => by rw [e, hr] at h5; cases h5
      walk_at "go"
      refine ⟨⟨_, .ce (by rw [sup_ne n1]; exact h5)⟩, ?_⟩
      cases b with
      | true =>
        walk_at "go"
        refine vAppend (by rw [sup_ne n1]; exact h5) (by rw [qsD_len]; omega) ?_
        walk_at "go"
        refine vSetK (by rw [sup_ne n1.symm, sup_same]) (by have := h2.2; omega) ?_
        rw [swap r n1.symm]
        walk_at "go"
        exact main false rfl r hr _ _ fun ω' o1 o2 => .of (q ω' o1 o2)
      | false =>
        walk_at "go"
        refine vAppend (by rw [sup_ne n1]; exact h5) (by rw [qsD_len]; omega) ?_
        walk_at "go"
        refine vSetK (by rw [sup_ne n1.symm, sup_same]) (by have := h2.2; omega) ?_
        rw [swap r n1.symm]
        walk_at "go"
        exact main true rfl r hr _ _ fun ω' o1 o2 => .of (q ω' o1 o2)
/-! ### _law_prenexed -/
theorem ok__law_prenexed (u__law_prenexed : Tx K mg "_law_prenexed" s__law_prenexed ["f"]) (h__law_put_ahead : Df false P w K mg base CX0 226 "_law_put_ahead" s__law_put_ahead ["f", "side", "names", "found"] (S_pulled 112)) (z_tuple : mg "tuple" = none) : Df false P w K mg base CX0 227 "_law_prenexed" s__law_prenexed ["f"] S_prenex := by
  refine u__law_prenexed.dfy sc__law_prenexed (fun ds ω x k h => by obtain ⟨f, rfl, _⟩ := h; rfl) fun f_ cdv A out s_ H_ hG hr => ?_
  have nd := sc__law_prenexed.nd
  refine ⟨_, _, (yss_cons (ys_set (i := 1) nd (ye_lst ya_nil))
    (yss_cons (ys_set (i := 2) nd (ye_call h__law_put_ahead gF (hr.mono (by omega)) passAll (ya_cons (yv 0) (ya_cons ybl (ya_cons ye_dnew (ya_cons (yv 1) ya_nil))))))
    (yss_one (ys_ret (ye_tup (ya_cons (ye_ct yc_tuple z_tuple PyProof.Rows.boot_tuple (ya_cons (yv 1) ya_nil)) (ya_cons (yv 2) ya_nil))))))), fun ds ω x k h => ?_⟩
  obtain ⟨f, rfl, h, q⟩ := h
  obtain ⟨h1, h2, h3, h4, h5, h6, _, _, _⟩ := h
  walk_at "go"
  intro pq hpq
  walk_at "go"
  intro pn hpn
  walk_at "go"
  have n1 : pn ≠ pq := fun e => by rw [e, sup_same] at hpn; cases hpn
  have hpn0 : ω pn = none := by rw [← hpn]; exact (sup_ne n1).symm
  refine ⟨f, true, pn, pq, [], [], id, [], rfl, sup_same, ⟨fun x hx => (by cases hx), Nat.le_refl _⟩, .nil, h1, by rw [sup_ne n1.symm, sup_same]; rfl, h2, h3, by show 0 + 112 ≤ _; omega, by omega, by show 0 + f.qn ≤ 150; omega, fun ω' o1 o2 => ?_⟩
  walk_at "go"
  refine vTupP o1 ?_
  walk_at "go"
  refine .dr q fun a c ha => ?_
  have np : a ≠ pq := fun e => by rw [e, hpq] at ha; cases ha
  have nn : a ≠ pn := fun e => by rw [e, hpn0] at ha; cases ha
  rw [o2 a np (by rw [sup_ne nn, sup_ne np, ha]; exact Option.some_ne_none _), sup_ne nn, sup_ne np]
  exact ha
end
end L3
namespace L3
open PySem L2 PySem.Spec PyProof.Rows
open PySem (PyData)
local macro_rules | `(tactic| walk_at "g1") => `(tactic| with_reducible first
  | refine gSeq ?_ | refine gIfS ?_ | refine gTest ?_ | refine gOp ?_ | refine gCons ?_ | refine gNil ?_ | refine gC ?_ | refine gCB ?_ | refine gAsgNew ?_ | refine gAsg ?_ | refine gRet ?_ | refine gTup ?_ | refine gLst ?_
  | refine gBl ?_ | refine gName ?_ | refine gNot ?_ | refine gAndV ?_ | refine gOrV ?_ | refine gNotV ?_ | refine gIf ?_ | refine gTru ?_ | refine gTrB ?_ | refine gTrT ?_ | refine gTrL ?_ | refine gUn ?_ | refine gDrop ?_ | refine gNext ?_ | refine gSub ?_ | refine gSl ?_ | refine gPart ?_ | refine gPa ?_ | refine gNoP ?_ | refine gPar ?_ | refine gPar3 ?_ | refine gPar32 ?_ | refine gRev ?_ | refine gRvF ?_ | refine gPar2 ?_ | refine gNx ?_ | refine gRtS ?_ | refine gCtS ?_ | refine gBkS ?_ | refine gNxL ?_ | refine gCtL ?_ | refine gBkL ?_ | refine gRtL ?_ | refine gRtU ?_ | refine gNxU ?_ | refine gFor ?_ | refine gForC ?_ | refine gForN ?_ | refine gBM ?_ | refine gBM0 ?_ | refine gCallK ?_
  | refine gdConsI ?_ | refine gdNilI ?_ | refine vEqS ?_ | refine vEqI ?_ | refine vEqB ?_ | refine vNeS ?_ | refine vNeI ?_ | refine vNeB ?_ | refine vAddI ?_ | refine vSub ?_ | refine vNeg ?_ | refine vLt ?_ | refine vLe ?_ | refine vGt ?_ | refine vGe ?_ | refine vMax2 ?_ | refine vMin2 ?_ | refine vAbs ?_ | refine vIntI ?_ | refine vIntB ?_ | refine vLenF ?_ | refine vLenQ ?_ | refine vLenT ?_ | refine vSumF ?_ | refine vAnyF ?_ | refine vAllF ?_ | refine vTupF ?_ | refine vTupT ?_ | refine vSlT1 ?_ | refine vSlT2 ?_)
local macro_rules | `(tactic| walk_at "g0") => `(tactic| first
  | walk_at "g1"
  | ((with_reducible apply gVar); (exact rfl))
  | ((with_reducible apply vIxT); (exact rfl))
  | ((with_reducible apply vIxF); (exact rfl))
  | ((with_reducible refine vInTb ?_ ?_ ?_); (exact rfl); (exact rfl))
  | ((with_reducible refine vNinTb ?_ ?_ ?_); (exact rfl); (exact rfl))
  | ((with_reducible refine vInLb ?_ ?_ ?_); (exact rfl); (exact rfl))
  | ((with_reducible refine vNinLb ?_ ?_ ?_); (exact rfl); (exact rfl))
  | ((with_reducible refine gdTupT ?_ ?_); (exact rfl))
  | ((with_reducible refine gdTupL ?_ ?_); (exact rfl))
  | ((with_reducible refine gTu ?_ ?_); (exact small_le (by simp)))
  | ((with_reducible refine gIt ?_ ?_); (first | exact rfl | exact decide_eq_true rfl | decide +kernel))
  | ((with_reducible refine gIff ?_ ?_); (first | exact rfl | decide +kernel)))
local macro_rules | `(tactic| walk_at "gq") => `(tactic| first
  | walk_at "g0"
  | ((with_reducible refine gLs ?_ ?_); (exact small_le (by simp))))
local macro_rules | `(tactic| walk_at "g2") => `(tactic| first
  | walk_at "gq"
  | with_reducible refine gAnd ?_
  | with_reducible refine gOr ?_)
local macro_rules | `(tactic| walk_at "go") => `(tactic| repeat walk_at "g2")
local macro_rules | `(tactic| walk_at "gp") => `(tactic| repeat walk_at "gq")
local macro_rules | `(tactic| walk_at "gn") => `(tactic| repeat (first | walk_at "g0" | with_reducible refine gAnd ?_ | with_reducible refine gOr ?_))

section
variable {P : Program} {w : World} {K : PySem.W.Frag} {mg : Str → Option Value} {base : Heap}

/-! ### _law_take, _law_pick -/
theorem ok__law_take (u__law_take : Tx K mg "_law_take" s__law_take ["bag", "many"]) (z_int : mg "int" = none) : Df false P w K mg base CX0 1 "_law_take" s__law_take ["bag", "many"] S_take := by
  refine u__law_take.dfy sc__law_take (fun ds ω x k h => by obtain ⟨p, g, m, rfl, _⟩ := h; rfl) fun f_ cdv A out s_ H_ hG hr => ?_
  have nd := sc__law_take.nd
  refine ⟨_, _, (yss_cons (ys_if (yt_cmp yo_lt (yv 1) yint) (yss_one (ys_ret yint)) yss_nil)
    (yss_cons (ys_if (yt_cmp (yo_ne hr.units) (ye_ix (yi_any (hu_of hr)) (yv 0) ystr) (ye_lst ya_nil)) (yss_cons (ys_set (i := 2) nd (ye_pop (ye_ix (yi_any (hu_of hr)) (yv 0) ystr)))
    (yss_cons (ys_if (yt_cmp yo_ge (yv 2) (yv 1)) (yss_one (ys_expr (ye_append (ye_ix (yi_any (hu_of hr)) (yv 0) ystr) (ya_cons (ye_bin yo_fdiv (yv 2) (yv 1)) ya_nil)))) yss_nil)
    (yss_one (ys_ret (ye_bin yo_mod (ye_ct yc_int z_int PyProof.Rows.boot_int (ya_cons (yv 2) ya_nil)) (yv 1)))))) yss_nil)
    (yss_cons (ys_asg (ye_bin yo_add (ye_ix (yi_any (hu_of hr)) (yv 0) ystr) yint) (yg_sub (hu_of hr) (yv 0) ystr))
    (yss_cons (ys_set (i := 3) nd (ye_bin yo_mod (ye_ct yc_int z_int PyProof.Rows.boot_int (ya_cons (ye_bin yo_add (ye_bin yo_mul (ye_ix (yi_any (hu_of hr)) (yv 0) ystr) yint) (ye_bin yo_mul yint (ye_ix (yi_any (hu_of hr)) (yv 0) ystr))) ya_nil)) yint))
    (yss_cons (ys_asg (yv 3) (yg_sub (hu_of hr) (yv 0) ystr))
    (yss_one (ys_ret (ye_bin yo_mod (ye_ct yc_int z_int PyProof.Rows.boot_int (ya_cons (ye_bin yo_fdiv (yv 3) yint) ya_nil)) (yv 1))))))))), fun ds ω x k h => ?_⟩
  obtain ⟨p, g, m, rfl, hb, h1, h2, q⟩ := h
  obtain ⟨s, t, e1⟩ := hb.ex
  obtain ⟨gs, e2, e3⟩ := hb.gr
  have ng : p ≠ g := hb.ne
  walk_at "go"
  refine gI2 (fun c => ?_) fun c => ?_
  · walk_at "go"
    exact .of (q 0 ω (Int.le_refl _) (by omega) hb .refl)
  walk_at "go"
  refine bGreat e1 ?_
  walk_at "go"
  refine vNeNil (.ptr e2 (py_ints gs)) (lay_ints gs) ?_
  walk_at "go"
  refine gI2 (fun c2 => ?_) fun c2 => ?_
  · have ne : gs ≠ [] := fun z => by subst z; cases c2
    obtain ⟨gl, gi, rfl⟩ : ∃ gl gi, gs = gl ++ [gi] := ⟨gs.dropLast, gs.getLast ne, (List.dropLast_concat_getLast ne).symm⟩
    have e2' : ω g = some (.lst (gl.map D.int ++ [.int gi])) := by rw [e2, List.map_append]; rfl
    have e4 : gl.length + 1 ≤ 63 := by rw [List.length_append] at e3; exact e3
    walk_at "go"
    refine bGreat e1 ?_
    walk_at "go"
    refine ⟨⟨_, .ce e2'⟩, ?_⟩
    walk_at "go"
    refine vPop e2' ?_
    walk_at "go"
    refine gI2 (fun c3 => ?_) fun c3 => ?_
    · walk_at "go"
      refine bGreat (by rw [sup_ne ng]; exact e1) ?_
      walk_at "go"
      refine ⟨⟨_, .ce sup_same⟩, ?_⟩
      walk_at "go"
      refine vFdiv ⟨by omega, by have := Int.toNat_of_nonneg (show 0 ≤ m by omega); exact log_small (by omega)⟩ ?_
      walk_at "go"
      refine vAppend sup_same (by rw [List.length_map]; omega) ?_
      rw [sup_sup]
      walk_at "go"
      refine vMod (by omega) ?_
      walk_at "go"
      refine .of (q _ _ (Int.emod_nonneg _ (by omega)) (Int.emod_lt_of_pos _ (by omega)) ⟨⟨s, t, by rw [sup_ne ng]; exact e1⟩, ⟨gl ++ [gi / m], by rw [sup_same, List.map_append]; rfl, by rw [List.length_append]; exact e4⟩⟩ Frm.refl.sg)
    · walk_at "go"
      refine vMod (by omega) ?_
      walk_at "go"
      refine .of (q _ _ (Int.emod_nonneg _ (by omega)) (Int.emod_lt_of_pos _ (by omega)) ⟨⟨s, t, by rw [sup_ne ng]; exact e1⟩, ⟨gl, sup_same, by omega⟩⟩ Frm.refl.sg)
  · walk_at "go"
    refine bTurn e1 ?_
    walk_at "go"
    refine bSetTurn e1 ?_
    walk_at "go"
    refine bSeed sup_same ?_
    walk_at "go"
    refine vMul (.inr (by decide)) ?_
    walk_at "go"
    refine bTurn sup_same ?_
    walk_at "go"
    refine vMul (.inl (by decide)) ?_
    walk_at "go"
    refine vMod (by decide) ?_
    walk_at "go"
    refine bSetSeed sup_same ?_
    rw [sup_sup]
    walk_at "go"
    refine vFdiv ⟨by decide, by decide +kernel⟩ ?_
    walk_at "go"
    refine vMod (by omega) ?_
    walk_at "go"
    exact .of (q _ _ (Int.emod_nonneg _ (by omega)) (Int.emod_lt_of_pos _ (by omega)) ⟨⟨_, _, sup_same⟩, ⟨gs, by rw [sup_ne ng.symm]; exact e2, e3⟩⟩ Frm.refl.sp)
theorem ok__law_pick (u__law_pick : Tx K mg "_law_pick" s__law_pick ["bag", "some"]) (h__law_take : Df false P w K mg base CX0 1 "_law_take" s__law_take ["bag", "many"] S_take) (z_len : mg "len" = none) : Df false P w K mg base CX0 2 "_law_pick" s__law_pick ["bag", "some"] S_pick := by
  refine u__law_pick.dfy sc__law_pick (fun ds ω x k h => by obtain ⟨p, g, es, rfl, _⟩ := h; rfl) fun f_ cdv A out s_ H_ hG hr => ?_
  have nd := sc__law_pick.nd
  refine ⟨_, _, (yss_one (ys_ret (ye_ix (yi_any (hu_of hr)) (yv 1) (ye_call h__law_take gF (hr.mono (by omega)) passAll (ya_cons (yv 0) (ya_cons (ye_cb yc_len z_len PySem.boot_len (ya_cons (yv 1) ya_nil)) ya_nil)))))), fun ds ω x k h => ?_⟩
  obtain ⟨p, g, es, rfl, hb, h1, h2, q⟩ := h
  walk_at "go"
  refine vTake hb (by omega) (by omega) fun r ω' r1 r2 hb' fr => ?_
  have hr : r.toNat < es.length := by omega
  refine vIxF (e := es[r.toNat]) (atI_in es r1 hr) ?_
  walk_at "go"
  exact .of (q _ _ (List.getElem_mem hr) hb' fr)
/-! ### _law_parts_of -/
theorem ok__law_parts_of (u__law_parts_of : Tx K mg "_law_parts_of" s__law_parts_of ["f"]) : Df false P w K mg base CX0 1 "_law_parts_of" s__law_parts_of ["f"] S_parts_of := by
  refine u__law_parts_of.dfy sc__law_parts_of (fun ds ω x k h => by obtain ⟨f, rfl, _⟩ := h; rfl) fun f_ cdv A out s_ H_ hG hr => ?_
  have nd := sc__law_parts_of.nd
  refine ⟨_, _, (yss_cons (ys_if (yt_cmp (yo_eq hr.units) (ye_ix (yi_any (hu_of hr)) (yv 0) yint) ystr) (yss_one (ys_ret (ye_tup ya_nil))) yss_nil)
    (yss_cons (ys_if (yt_cmp (yo_in (hu_of hr)) (ye_ix (yi_any (hu_of hr)) (yv 0) yint) (ye_tup (ya_cons ystr (ya_cons ystr ya_nil)))) (yss_one (ys_ret (ye_ix (yi_any (hu_of hr)) (yv 0) yint))) yss_nil)
    (yss_one (ys_ret (ye_if (yt_cmp (yo_in (hu_of hr)) (ye_ix (yi_any (hu_of hr)) (yv 0) yint) (ye_tup (ya_cons ystr (ya_cons ystr ya_nil)))) (ye_slice yl_any (yv 0) (yp_some yint) yp_none) (ye_slice yl_any (yv 0) (yp_some yint) yp_none)))))), fun ds ω x k h => ?_⟩
  obtain ⟨f, e, q⟩ := h
  cases f with
  | lt y =>
    have e : ds = [.tup [.str "letter", .str y]] := e
    subst e
    walk_at "go"
    exact .of q
  | nt f =>
    have e : ds = [.tup [.str "not", f.enc]] := e
    subst e
    walk_at "go"
    exact .of q
  | row b fs =>
    have q2 : k (.tup (Fm.encs fs)) ω := by rw [encs_map]; exact q
    cases b with
    | true =>
      have e : ds = [.tup [.str "and", .tup (Fm.encs fs)]] := e
      subst e
      walk_at "go"
      exact .of q2
    | false =>
      have e : ds = [.tup [.str "or", .tup (Fm.encs fs)]] := e
      subst e
      walk_at "go"
      exact .of q2
  | sm f g =>
    have e : ds = [.tup [.str "same", f.enc, g.enc]] := e
    subst e
    walk_at "go"
    exact .of q
  | qt b y f =>
    cases b with
    | true =>
      have e : ds = [.tup [.str "each", .str y, f.enc]] := e
      subst e
      walk_at "go"
      exact .of q
    | false =>
      have e : ds = [.tup [.str "some", .str y, f.enc]] := e
      subst e
      walk_at "go"
      exact .of q
end
end L3
namespace L3
open PySem L2 PySem.Spec PyProof.Rows
open PySem (PyData)
local macro_rules | `(tactic| walk_at "g1") => `(tactic| with_reducible first
  | refine gSeq ?_ | refine gIfS ?_ | refine gTest ?_ | refine gOp ?_ | refine gCons ?_ | refine gNil ?_ | refine gC ?_ | refine gCB ?_ | refine gAsgNew ?_ | refine gAsg ?_ | refine gRet ?_ | refine gTup ?_ | refine gLst ?_
  | refine gBl ?_ | refine gName ?_ | refine gNot ?_ | refine gAndV ?_ | refine gOrV ?_ | refine gNotV ?_ | refine gIf ?_ | refine gTru ?_ | refine gTrB ?_ | refine gTrT ?_ | refine gTrL ?_ | refine gUn ?_ | refine gDrop ?_ | refine gNext ?_ | refine gSub ?_ | refine gSl ?_ | refine gPart ?_ | refine gPa ?_ | refine gNoP ?_ | refine gPar ?_ | refine gPar3 ?_ | refine gPar32 ?_ | refine gRev ?_ | refine gRvF ?_ | refine gPar2 ?_ | refine gNx ?_ | refine gRtS ?_ | refine gCtS ?_ | refine gBkS ?_ | refine gNxL ?_ | refine gCtL ?_ | refine gBkL ?_ | refine gRtL ?_ | refine gRtU ?_ | refine gNxU ?_ | refine gFor ?_ | refine gForC ?_ | refine gForN ?_ | refine gBM ?_ | refine gBM0 ?_ | refine gCallK ?_
  | refine gdConsI ?_ | refine gdNilI ?_ | refine vEqS ?_ | refine vEqI ?_ | refine vEqB ?_ | refine vNeS ?_ | refine vNeI ?_ | refine vNeB ?_ | refine vAddI ?_ | refine vSub ?_ | refine vNeg ?_ | refine vLt ?_ | refine vLe ?_ | refine vGt ?_ | refine vGe ?_ | refine vMax2 ?_ | refine vMin2 ?_ | refine vAbs ?_ | refine vIntI ?_ | refine vIntB ?_ | refine vLenF ?_ | refine vLenQ ?_ | refine vLenT ?_ | refine vSumF ?_ | refine vAnyF ?_ | refine vAllF ?_ | refine vTupF ?_ | refine vTupT ?_ | refine vSlT1 ?_ | refine vSlT2 ?_)
local macro_rules | `(tactic| walk_at "g0") => `(tactic| first
  | walk_at "g1"
  | ((with_reducible apply gVar); (exact rfl))
  | ((with_reducible apply vIxT); (exact rfl))
  | ((with_reducible apply vIxF); (exact rfl))
  | ((with_reducible refine vInTb ?_ ?_ ?_); (exact rfl); (exact rfl))
  | ((with_reducible refine vNinTb ?_ ?_ ?_); (exact rfl); (exact rfl))
  | ((with_reducible refine vInLb ?_ ?_ ?_); (exact rfl); (exact rfl))
  | ((with_reducible refine vNinLb ?_ ?_ ?_); (exact rfl); (exact rfl))
  | ((with_reducible refine gdTupT ?_ ?_); (exact rfl))
  | ((with_reducible refine gdTupL ?_ ?_); (exact rfl))
  | ((with_reducible refine gTu ?_ ?_); (exact small_le (by simp)))
  | ((with_reducible refine gIt ?_ ?_); (first | exact rfl | exact decide_eq_true rfl | decide +kernel))
  | ((with_reducible refine gIff ?_ ?_); (first | exact rfl | decide +kernel)))
local macro_rules | `(tactic| walk_at "gq") => `(tactic| first
  | walk_at "g0"
  | ((with_reducible refine gLs ?_ ?_); (exact small_le (by simp))))
local macro_rules | `(tactic| walk_at "g2") => `(tactic| first
  | walk_at "gq"
  | with_reducible refine gAnd ?_
  | with_reducible refine gOr ?_)
local macro_rules | `(tactic| walk_at "go") => `(tactic| repeat walk_at "g2")
local macro_rules | `(tactic| walk_at "gp") => `(tactic| repeat walk_at "gq")
local macro_rules | `(tactic| walk_at "gn") => `(tactic| repeat (first | walk_at "g0" | with_reducible refine gAnd ?_ | with_reducible refine gOr ?_))

section
variable {P : Program} {w : World} {K : PySem.W.Frag} {mg : Str → Option Value} {base : Heap}

set_option maxHeartbeats 2000000 in
theorem ok__law_formula (u__law_formula : Tx K mg "_law_formula" s__law_formula ["bag", "names", "size", "more"]) (h__law_take : Df false P w K mg base CX0 1 "_law_take" s__law_take ["bag", "many"] S_take) (h__law_pick : Df false P w K mg base CX0 2 "_law_pick" s__law_pick ["bag", "some"] S_pick) (z_tuple : mg "tuple" = none) (z_range : mg "range" = none) : ∀ n, Df false P w K mg base CX0 (n + 3) "_law_formula" s__law_formula ["bag", "names", "size", "more"] (S_formula n) := by
  intro n
  induction n with
  | zero => exact u__law_formula.no fun ds ω x k ⟨_, _, _, _, _, _, _, _, h, _⟩ => by omega
  | succ n h__law_formula =>
  refine u__law_formula.dfy sc__law_formula (fun ds ω x k h => by obtain ⟨p, g, ns, size, more, rfl, _⟩ := h; rfl) fun f_ cdv A out s_ H_ hG hr => ?_
  have nd := sc__law_formula.nd
  refine ⟨_, _, (yss_cons (ys_set (i := 4) nd (ye_call h__law_take gF (hr.mono (by omega)) passAll (ya_cons (yv 0) (ya_cons yint ya_nil))))
    (yss_cons (ys_if (YW.yt (yw_or (yt_cmp yo_lt (yv 2) yint) (yw_or1 (yt_cmp (yo_eq hr.units) (yv 4) yint)))) (yss_cons (ys_if (YW.yt (yw_or (yt_cmp (yo_eq hr.units) (yv 1) (ye_lst ya_nil)) (yw_or1 (yt_cmp (yo_eq hr.units) (ye_call h__law_take gF (hr.mono (by omega)) passAll (ya_cons (yv 0) (ya_cons yint ya_nil))) yint)))) (yss_one (ys_ret (ye_tup (ya_cons (ye_call h__law_pick gF (hr.mono (by omega)) passAll (ya_cons (yv 0) (ya_cons (ye_lst (ya_cons ystr (ya_cons ystr ya_nil))) ya_nil))) (ya_cons (ye_tup ya_nil) ya_nil))))) yss_nil)
    (yss_one (ys_ret (ye_tup (ya_cons ystr (ya_cons (ye_call h__law_pick gF (hr.mono (by omega)) passAll (ya_cons (yv 0) (ya_cons (yv 1) ya_nil))) ya_nil)))))) yss_nil)
    (yss_cons (ys_if (yt_cmp yo_lt (yv 4) yint) (yss_one (ys_ret (ye_tup (ya_cons ystr (ya_cons (ye_call h__law_formula gF (hr.mono (by omega)) passAll (ya_cons (yv 0) (ya_cons (yv 1) (ya_cons (ye_bin yo_sub (yv 2) yint) (ya_cons (yv 3) ya_nil))))) ya_nil))))) yss_nil)
    (yss_cons (ys_if (YW.yt (yw_and (yt_cmp yo_lt (yv 4) yint) (yw_and1 (yt_cmp yo_gt (yv 3) yint)))) (yss_cons (ys_set (i := 5) nd (ye_call h__law_pick gF (hr.mono (by omega)) passAll (ya_cons (yv 0) (ya_cons (ye_lst (ya_cons ystr (ya_cons ystr (ya_cons ystr (ya_cons ystr ya_nil))))) ya_nil))))
    (yss_one (ys_ret (ye_tup (ya_cons (ye_call h__law_pick gF (hr.mono (by omega)) passAll (ya_cons (yv 0) (ya_cons (ye_lst (ya_cons ystr (ya_cons ystr ya_nil))) ya_nil))) (ya_cons (yv 5) (ya_cons (ye_call h__law_formula gF (hr.mono (by omega)) passAll (ya_cons (yv 0) (ya_cons (ye_bin yo_add (yv 1) (ye_lst (ya_cons (yv 5) ya_nil))) (ya_cons (ye_bin yo_sub (yv 2) yint) (ya_cons (ye_bin yo_sub (yv 3) yint) ya_nil))))) ya_nil))))))) yss_nil)
    (yss_cons (ys_if (yt_cmp (yo_eq hr.units) (yv 4) yint) (yss_cons (ys_set (i := 6) nd (ye_bin yo_fdiv (yv 2) yint))
    (yss_one (ys_ret (ye_tup (ya_cons ystr (ya_cons (ye_call h__law_formula gF (hr.mono (by omega)) passAll (ya_cons (yv 0) (ya_cons (yv 1) (ya_cons (yv 6) (ya_cons (yv 3) ya_nil))))) (ya_cons (ye_call h__law_formula gF (hr.mono (by omega)) passAll (ya_cons (yv 0) (ya_cons (yv 1) (ya_cons (yv 6) (ya_cons (yv 3) ya_nil))))) ya_nil))))))) yss_nil)
    (yss_cons (ys_set (i := 7) nd (ye_bin yo_add yint (ye_call h__law_take gF (hr.mono (by omega)) passAll (ya_cons (yv 0) (ya_cons yint ya_nil)))))
    (yss_cons (ys_setLc (i := 8) (own := [("turn", 9)]) rfl nd (yi_r1 z_range (ya_cons (yv 7) ya_nil)) (blkOk_by (by kernel_rfl)) (og_name (by decide)) (fun _ _ _ _ _ => (yg_name (i := 9) nd)) (fun _ _ _ _ _ => yts_nil) (fun _ _ _ _ _ => (ye_call h__law_formula gF (hr.mono (by omega)) passAll (ya_cons (yv 0) (ya_cons (yv 1) (ya_cons (ye_bin yo_fdiv (ye_bin yo_sub (yv 2) yint) (yv 7)) (ya_cons (yv 3) ya_nil)))))))
    (yss_one (ys_ret (ye_tup (ya_cons (ye_call h__law_pick gF (hr.mono (by omega)) passAll (ya_cons (yv 0) (ya_cons (ye_lst (ya_cons ystr (ya_cons ystr ya_nil))) ya_nil))) (ya_cons (ye_ct yc_tuple z_tuple PyProof.Rows.boot_tuple (ya_cons (yv 8) ya_nil)) ya_nil)))))))))))), fun ds ω x k h => ?_⟩
  obtain ⟨p, g, ns, size, more, rfl, hb, h1, h2, h3, h4, h5, q⟩ := h
  walk_at "gp"
  refine vTake hb (by omega) (by omega) fun way ω1 w1 w2 hb1 fr1 => ?_
  walk_at "gp"
  refine gOrP (b1 := decide (size < 2)) (b2 := decide (way = 0)) (fun kb z => by walk_at "gp"; exact z) (fun kb z => by walk_at "gp"; exact z) ?_
  refine gI2 (fun c => ?_) fun c => ?_
  · walk_at "go"
    refine vEqNil (.lst (py_strs ns)) (lay_strs fun s hs => (okName_of (h5 s hs)).2) ?_
    walk_at "go"
    refine gI2 (fun c2 => ?_) fun c2 => ?_
    · walk_at "go"
      refine vPick hb1 (by show 1 ≤ 2; omega) (by show 2 ≤ _; omega) fun e ω2 he hb2 fr2 => ?_
      obtain ⟨b, rfl⟩ := of_wd he
      walk_at "go"
      exact .of (q (.row b []) _ .row0 hb2 (fr1.tr fr2))
    · have ne : ns ≠ [] := fun z => by subst z; cases c2
      have hl : 1 ≤ ns.length := List.length_pos_iff.mpr ne
      walk_at "go"
      refine vTake hb1 (by omega) (by omega) fun r ω2 r1 r2 hb2 fr2 => ?_
      walk_at "go"
      refine gI2 (fun c3 => ?_) fun c3 => ?_
      · walk_at "go"
        refine vPick hb2 (by show 1 ≤ 2; omega) (by show 2 ≤ _; omega) fun e ω3 he hb3 fr3 => ?_
        obtain ⟨b, rfl⟩ := of_wd he
        walk_at "go"
        exact .of (q (.row b []) _ .row0 hb3 (fr1.tr (fr2.tr fr3)))
      · walk_at "go"
        refine vPick hb2 (by rw [List.length_map]; exact hl) (by rw [List.length_map]; omega) fun e ω3 he hb3 fr3 => ?_
        obtain ⟨s, hs, rfl⟩ := List.mem_map.mp he
        walk_at "go"
        exact .of (q (.lt s) _ (.lt hs (h5 s hs)) hb3 (fr1.tr (fr2.tr fr3)))
  · have hs : 2 ≤ size := by
      rw [Bool.or_eq_false_iff] at c
      have := of_decide_eq_false c.1
      omega
    walk_at "gp"
    refine gI2 (fun c3 => ?_) fun c3 => ?_
    · walk_at "go"
      refine ⟨p, g, ns, size - 1, more, rfl, hb1, by omega, by omega, h3, h4, h5, fun f ω2 gf hb2 fr2 => ?_⟩
      walk_at "go"
      exact .of (q (.nt f) _ (gf.nt hs) hb2 (fr1.tr fr2))
    walk_at "gp"
    refine gAndP (b1 := decide (way < 7)) (b2 := decide (0 < more)) (fun kb z => by walk_at "gp"; exact z) (fun kb z => by walk_at "gp"; exact z) ?_
    refine gI2 (fun c4 => ?_) fun c4 => ?_
    · have hm : 0 < more := by
        rw [Bool.and_eq_true] at c4
        exact of_decide_eq_true c4.2
      walk_at "go"
      refine vPick hb1 (by show 1 ≤ 4; omega) (by show 4 ≤ _; omega) fun e ω2 he hb2 fr2 => ?_
      obtain ⟨nm, rfl, ho⟩ := of_nm he
      walk_at "go"
      refine vPick hb2 (by show 1 ≤ 2; omega) (by show 2 ≤ _; omega) fun e ω3 he hb3 fr3 => ?_
      obtain ⟨b, rfl⟩ := of_qd he
      walk_at "go"
      refine vAddL (.fr _) (.fr _) (small_le (by rw [List.length_map]; show ns.length + 1 ≤ _; omega)) (.inl ?_)
      walk_at "go"
      refine ⟨p, g, ns ++ [nm], size - 1, more - 1, by rw [List.map_append]; rfl, hb3, by omega, by omega, by omega, by rw [List.length_append]; show _ + ((ns.length + 1 : Nat) : Int) ≤ _; omega, fun s hs => ?_, fun f ω4 gf hb4 fr4 => ?_⟩
      · rcases List.mem_append.mp hs with h | h
        · exact h5 s h
        · rw [List.mem_singleton.mp h]
          exact ho
      · walk_at "go"
        exact .of (q (.qt b nm f) _ (gf.qt hs hm ho) hb4 (fr1.tr (fr2.tr (fr3.tr fr4))))
    walk_at "gp"
    refine gI2 (fun c5 => ?_) fun c5 => ?_
    · walk_at "go"
      refine vFdiv ⟨by decide, by decide +kernel⟩ ?_
      walk_at "go"
      refine ⟨p, g, ns, size / 2, more, rfl, hb1, by omega, by omega, h3, h4, h5, fun f1 ω2 gf1 hb2 fr2 => ?_⟩
      walk_at "go"
      refine ⟨p, g, ns, size / 2, more, rfl, hb2, by omega, by omega, h3, h4, h5, fun f2 ω3 gf2 hb3 fr3 => ?_⟩
      walk_at "go"
      exact .of (q (.sm f1 f2) _ (.sm hs gf1 gf2) hb3 (fr1.tr (fr2.tr fr3)))
    walk_at "gp"
    refine vTake hb1 (by omega) (by omega) fun r ω2 r1 r2 hb2 fr2 => ?_
    walk_at "gp"
    obtain ⟨m, hm⟩ : ∃ m : Nat, 2 + r = (m : Int) := ⟨(2 + r).toNat, by omega⟩
    rw [hm]
    have hm2 : m = 2 ∨ m = 3 := by omega
    refine lc_bag (p := p) (g := g) m (fun d => ∃ f : Fm, d = f.enc ∧ GenF ns ((size - 1) / m) more f) (by omega) (fun k0 h => by walk_at "go"; exact h) hb2 (fun i ω3 k1 hi hb3 fr3 h => ?_) fun ds ω3 hl hd hb3 fr3 => ?_
    · walk_at "go"
      refine vFdiv ⟨by omega, log_small (by omega)⟩ ?_
      walk_at "go"
      refine ⟨p, g, ns, (size - 1) / m, more, rfl, hb3, by rcases hm2 with rfl | rfl <;> omega, by rcases hm2 with rfl | rfl <;> omega, h3, h4, h5, fun f ω4 gf hb4 fr4 => h _ _ ⟨f, rfl, gf⟩ hb4 fr4⟩
    obtain ⟨fs, rfl, hl2, hf⟩ := encs_of hd
    walk_at "go"
    refine vPick hb3 (by show 1 ≤ 2; omega) (by show 2 ≤ _; omega) fun e ω4 he hb4 fr4 => ?_
    obtain ⟨b, rfl⟩ := of_wd he
    walk_at "go"
    exact .of (q (.row b fs) _ (.row hs hm2 (hl2.trans hl) hf) hb4 (fr1.tr (fr2.tr (fr3.tr fr4))))
end
end L3
namespace L3
open PySem L2 PySem.Spec PyProof.Rows
open PySem (PyData)
local macro_rules | `(tactic| walk_at "g1") => `(tactic| with_reducible first
  | refine gSeq ?_ | refine gIfS ?_ | refine gTest ?_ | refine gOp ?_ | refine gCons ?_ | refine gNil ?_ | refine gC ?_ | refine gCB ?_ | refine gAsgNew ?_ | refine gAsg ?_ | refine gRet ?_ | refine gTup ?_ | refine gLst ?_
  | refine gBl ?_ | refine gName ?_ | refine gNot ?_ | refine gAndV ?_ | refine gOrV ?_ | refine gNotV ?_ | refine gIf ?_ | refine gTru ?_ | refine gTrB ?_ | refine gTrT ?_ | refine gTrL ?_ | refine gUn ?_ | refine gDrop ?_ | refine gNext ?_ | refine gSub ?_ | refine gSl ?_ | refine gPart ?_ | refine gPa ?_ | refine gNoP ?_ | refine gPar ?_ | refine gPar3 ?_ | refine gPar32 ?_ | refine gRev ?_ | refine gRvF ?_ | refine gPar2 ?_ | refine gNx ?_ | refine gRtS ?_ | refine gCtS ?_ | refine gBkS ?_ | refine gNxL ?_ | refine gCtL ?_ | refine gBkL ?_ | refine gRtL ?_ | refine gRtU ?_ | refine gNxU ?_ | refine gFor ?_ | refine gForC ?_ | refine gForN ?_ | refine gBM ?_ | refine gBM0 ?_ | refine gCallK ?_
  | refine gdConsI ?_ | refine gdNilI ?_ | refine vEqS ?_ | refine vEqI ?_ | refine vEqB ?_ | refine vNeS ?_ | refine vNeI ?_ | refine vNeB ?_ | refine vAddI ?_ | refine vSub ?_ | refine vNeg ?_ | refine vLt ?_ | refine vLe ?_ | refine vGt ?_ | refine vGe ?_ | refine vMax2 ?_ | refine vMin2 ?_ | refine vAbs ?_ | refine vIntI ?_ | refine vIntB ?_ | refine vLenF ?_ | refine vLenQ ?_ | refine vLenT ?_ | refine vSumF ?_ | refine vAnyF ?_ | refine vAllF ?_ | refine vTupF ?_ | refine vTupT ?_ | refine vSlT1 ?_ | refine vSlT2 ?_)
local macro_rules | `(tactic| walk_at "g0") => `(tactic| first
  | walk_at "g1"
  | ((with_reducible apply gVar); (exact rfl))
  | ((with_reducible apply vIxT); (exact rfl))
  | ((with_reducible apply vIxF); (exact rfl))
  | ((with_reducible refine vInTb ?_ ?_ ?_); (exact rfl); (exact rfl))
  | ((with_reducible refine vNinTb ?_ ?_ ?_); (exact rfl); (exact rfl))
  | ((with_reducible refine vInLb ?_ ?_ ?_); (exact rfl); (exact rfl))
  | ((with_reducible refine vNinLb ?_ ?_ ?_); (exact rfl); (exact rfl))
  | ((with_reducible refine gdTupT ?_ ?_); (exact rfl))
  | ((with_reducible refine gdTupL ?_ ?_); (exact rfl))
  | ((with_reducible refine gTu ?_ ?_); (exact small_le (by simp)))
  | ((with_reducible refine gIt ?_ ?_); (first | exact rfl | exact decide_eq_true rfl | decide +kernel))
  | ((with_reducible refine gIff ?_ ?_); (first | exact rfl | decide +kernel)))
local macro_rules | `(tactic| walk_at "gq") => `(tactic| first
  | walk_at "g0"
  | ((with_reducible refine gLs ?_ ?_); (exact small_le (by simp))))
local macro_rules | `(tactic| walk_at "g2") => `(tactic| first
  | walk_at "gq"
  | with_reducible refine gAnd ?_
  | with_reducible refine gOr ?_)
local macro_rules | `(tactic| walk_at "go") => `(tactic| repeat walk_at "g2")
local macro_rules | `(tactic| walk_at "gp") => `(tactic| repeat walk_at "gq")
local macro_rules | `(tactic| walk_at "gn") => `(tactic| repeat (first | walk_at "g0" | with_reducible refine gAnd ?_ | with_reducible refine gOr ?_))

section
variable {P : Program} {w : World} {K : PySem.W.Frag} {mg : Str → Option Value} {base : Heap}

/-! ### _law_bag -/
theorem ok__law_bag (u__law_bag : Tx K mg "_law_bag" s__law_bag ["script"]) (z_len : mg "len" = none) (z_abs : mg "abs" = none) (z_int : mg "int" = none) : Df false P w K mg base CX0 1 "_law_bag" s__law_bag ["script"] S_bag := by
  refine u__law_bag.dfy sc__law_bag (fun ds ω x k h => by obtain ⟨is, rfl, _⟩ := h; rfl) fun f_ cdv A out s_ H_ hG hr => ?_
  have nd := sc__law_bag.nd
  refine ⟨_, _, (yss_cons (ys_set (i := 1) nd (ye_disp (yd_cons ystr (ye_lst ya_nil) (yd_cons ystr (ye_bin yo_add yint (ye_cb yc_len z_len PySem.boot_len (ya_cons (ye_slice yl_any (yv 0) yp_none (yp_some yint)) ya_nil))) (yd_cons ystr yint yd_nil)))))
    (yss_cons (ys_for PassesOwn.never rfl (yi_seq (ye_slice yl_any (yv 0) yp_none (yp_some yint))) (yg_name (i := 2) nd) (yss_cons (ys_if (yt_cmp yo_ge (ye_cb yc_abs z_abs PyProof.Rows.boot_abs (ya_cons (yv 2) ya_nil)) (ye_bin yo_pow yint yint)) (yss_one (ys_asg (ye_bin yo_add (ye_lst (ya_cons (ye_cb yc_abs z_abs PyProof.Rows.boot_abs (ya_cons (yv 2) ya_nil)) ya_nil)) (ye_ix (yi_any (hu_of hr)) (yv 1) ystr)) (yg_sub (hu_of hr) (yv 1) ystr))) yss_nil)
    (yss_cons (ys_set (i := 3) nd (ye_bin yo_add (ye_bin yo_mul yint (ye_cb yc_abs z_abs PyProof.Rows.boot_abs (ya_cons (yv 2) ya_nil))) (ye_ct yc_int z_int PyProof.Rows.boot_int (ya_cons (ye_cmp yo_lt (yv 2) yint) ya_nil))))
    (yss_one (ys_asg (ye_bin yo_mod (ye_ct yc_int z_int PyProof.Rows.boot_int (ya_cons (ye_bin yo_add (ye_bin yo_mul (ye_bin yo_add (ye_bin yo_add (ye_ix (yi_any (hu_of hr)) (yv 1) ystr) (yv 3)) yint) yint) yint) ya_nil)) yint) (yg_sub (hu_of hr) (yv 1) ystr))))))
    (yss_one (ys_ret (yv 1))))), fun ds ω x k h => ?_⟩
  obtain ⟨is, rfl, hl, q⟩ := h
  walk_at "go"
  intro p hp
  show dC _ _ _ _ _
  refine gC ?_
  refine gLst (gNil ?_)
  refine gLsP (ds := []) (Nat.zero_le _) fun g hg => ?_
  show dC _ _ _ _ _
  walk_at "go"
  refine vSlL (.sq _) (.inl ?_)
  walk_at "go"
  show dC _ _ _ _ _
  walk_at "go"
  have ng : p ≠ g := fun e => by rw [← e, sup_same] at hg; cases hg
  refine ⟨by rw [sup_ne ng, sup_same], [(.inr "great", .ptr g), (.inr "seed", .int _), (.inr "turn", .int 0)], rfl, by show 3 ≤ 15; omega, ?_⟩
  rw [merge_bag]
  walk_at "go"
  refine vSlL (.sq _) (.inl ?_)
  rw [cut_ints is hl]
  have hg0 : ω g = none := by rw [← hg]; exact (sup_ne ng.symm).symm
  refine forK_inv _ (fun i ρ ω1 => ∃ (c o : Option D) (g : Addr) (s t : Int) (gs : List Int), ρ = [some (.sq (is.map D.int)), some (.ptr p), c, o] ∧ ω1 p = some (.dK (bagD g s t)) ∧ ω1 g = some (.lst (gs.map D.int)) ∧ gs.length ≤ i ∧ ∀ a, ω a ≠ none → ω1 a = ω a) (.inl rfl) ⟨_, _, g, _, _, [], rfl, sup_same, by rw [sup_ne ng.symm, sup_same]; rfl, Nat.le_refl _, fun a ha => ?_⟩ (fun i d ρ ω1 hd ⟨c, o, g, s, t, gs, e, b1, b2, b3, b4⟩ => ?_) fun ρ ω1 ⟨c, o, g, s, t, gs, e, b1, b2, b3, b4⟩ => ?_
  · rw [sup_ne fun e => ha (by rw [e]; exact hp), sup_ne fun e => ha (by rw [e]; exact hg0), sup_ne fun e => ha (by rw [e]; exact hp)]
  · subst e
    have hi : i < is.length := by have := (List.getElem?_eq_some_iff.mp hd).1; rw [List.length_map] at this; exact this
    obtain ⟨z, rfl⟩ : ∃ z, d = .int z := by
      rw [List.getElem?_map] at hd
      cases h : is[i]? with
      | none => rw [h] at hd; cases hd
      | some z => rw [h] at hd; cases hd; exact ⟨z, rfl⟩
    walk_at "go"
    refine vPow ⟨by decide, by decide, by decide⟩ ?_
    walk_at "go"
    have tail : ∀ (ω1 : Store) (g : Addr) (gs : List Int), ω1 p = some (.dK (bagD g s t)) → ω1 g = some (.lst (gs.map D.int)) → gs.length ≤ i + 1 → (∀ a, ω a ≠ none → ω1 a = ω a) → ∀ L : LEnds, (∀ ρ ω2, (∃ (c o : Option D) (g : Addr) (s t : Int) (gs : List Int), ρ = [some (.sq (is.map D.int)), some (.ptr p), c, o] ∧ ω2 p = some (.dK (bagD g s t)) ∧ ω2 g = some (.lst (gs.map D.int)) ∧ gs.length ≤ i + 1 ∧ ∀ a, ω a ≠ none → ω2 a = ω a) → L.nx ρ ω2) → True := fun _ _ _ _ _ _ _ _ _ => trivial
    refine gI2 (fun c1 => ?_) fun c1 => ?_
    · walk_at "go"
      refine bGreat b1 ?_
      walk_at "go"
      refine vAddL (.fr _) (.ce b2) (small_le (by rw [List.length_map]; show 1 + _ ≤ _; omega)) (.inr fun r hr => ?_)
      have n1 : p ≠ r := fun e => by rw [← e, b1] at hr; cases hr
      walk_at "go"
      refine bSetGreat (by rw [sup_ne n1]; exact b1) ?_
      walk_at "go"
      refine vMul (.inl (by decide)) ?_
      walk_at "go"
      refine bSeed sup_same ?_
      walk_at "go"
      refine vMul (.inr (by decide)) ?_
      walk_at "go"
      refine vMod (by decide) ?_
      walk_at "go"
      refine bSetSeed sup_same ?_
      rw [sup_sup]
      walk_at "go"
      refine ⟨_, _, r, _, _, _ :: gs, rfl, sup_same, by rw [sup_ne n1.symm, sup_same]; rfl, by show gs.length + 1 ≤ i + 1; omega, fun a ha => ?_⟩
      rw [sup_ne fun e => ha (by rw [e]; exact hp), sup_ne fun e => ha (by rw [e, ← b4 r (fun z => ha (by rw [e, z]))]; exact hr), b4 a ha]
    · walk_at "go"
      refine vMul (.inl (by decide)) ?_
      walk_at "go"
      refine bSeed b1 ?_
      walk_at "go"
      refine vMul (.inr (by decide)) ?_
      walk_at "go"
      refine vMod (by decide) ?_
      walk_at "go"
      refine bSetSeed b1 ?_
      walk_at "go"
      have ng : p ≠ g := fun e => by rw [← e, b1] at b2; cases b2
      refine ⟨_, _, g, _, _, gs, rfl, sup_same, by rw [sup_ne ng.symm]; exact b2, by omega, fun a ha => ?_⟩
      rw [sup_ne fun e => ha (by rw [e]; exact hp), b4 a ha]
  · subst e
    walk_at "go"
    rw [List.length_map] at b3
    exact .of (q p g _ ⟨⟨s, t, b1⟩, ⟨gs, b2, by omega⟩⟩ b4)
end
end L3
namespace L3
open PySem L2 PySem.Spec PyProof.Rows
open PySem (PyData)
local macro_rules | `(tactic| walk_at "g1") => `(tactic| with_reducible first
  | refine gSeq ?_ | refine gIfS ?_ | refine gTest ?_ | refine gOp ?_ | refine gCons ?_ | refine gNil ?_ | refine gC ?_ | refine gCB ?_ | refine gAsgNew ?_ | refine gAsg ?_ | refine gRet ?_ | refine gTup ?_ | refine gLst ?_
  | refine gBl ?_ | refine gName ?_ | refine gNot ?_ | refine gAndV ?_ | refine gOrV ?_ | refine gNotV ?_ | refine gIf ?_ | refine gTru ?_ | refine gTrB ?_ | refine gTrT ?_ | refine gTrL ?_ | refine gUn ?_ | refine gDrop ?_ | refine gNext ?_ | refine gSub ?_ | refine gSl ?_ | refine gPart ?_ | refine gPa ?_ | refine gNoP ?_ | refine gPar ?_ | refine gPar3 ?_ | refine gPar32 ?_ | refine gRev ?_ | refine gRvF ?_ | refine gPar2 ?_ | refine gNx ?_ | refine gRtS ?_ | refine gCtS ?_ | refine gBkS ?_ | refine gNxL ?_ | refine gCtL ?_ | refine gBkL ?_ | refine gRtL ?_ | refine gRtU ?_ | refine gNxU ?_ | refine gFor ?_ | refine gForC ?_ | refine gForN ?_ | refine gBM ?_ | refine gBM0 ?_ | refine gCallK ?_
  | refine gdConsI ?_ | refine gdNilI ?_ | refine vEqS ?_ | refine vEqI ?_ | refine vEqB ?_ | refine vNeS ?_ | refine vNeI ?_ | refine vNeB ?_ | refine vAddI ?_ | refine vSub ?_ | refine vNeg ?_ | refine vLt ?_ | refine vLe ?_ | refine vGt ?_ | refine vGe ?_ | refine vMax2 ?_ | refine vMin2 ?_ | refine vAbs ?_ | refine vIntI ?_ | refine vIntB ?_ | refine vLenF ?_ | refine vLenQ ?_ | refine vLenT ?_ | refine vSumF ?_ | refine vAnyF ?_ | refine vAllF ?_ | refine vTupF ?_ | refine vTupT ?_ | refine vSlT1 ?_ | refine vSlT2 ?_)
local macro_rules | `(tactic| walk_at "g0") => `(tactic| first
  | walk_at "g1"
  | ((with_reducible apply gVar); (exact rfl))
  | ((with_reducible apply vIxT); (exact rfl))
  | ((with_reducible apply vIxF); (exact rfl))
  | ((with_reducible refine vInTb ?_ ?_ ?_); (exact rfl); (exact rfl))
  | ((with_reducible refine vNinTb ?_ ?_ ?_); (exact rfl); (exact rfl))
  | ((with_reducible refine vInLb ?_ ?_ ?_); (exact rfl); (exact rfl))
  | ((with_reducible refine vNinLb ?_ ?_ ?_); (exact rfl); (exact rfl))
  | ((with_reducible refine gdTupT ?_ ?_); (exact rfl))
  | ((with_reducible refine gdTupL ?_ ?_); (exact rfl))
  | ((with_reducible refine gTu ?_ ?_); (exact small_le (by simp)))
  | ((with_reducible refine gIt ?_ ?_); (first | exact rfl | exact decide_eq_true rfl | decide +kernel))
  | ((with_reducible refine gIff ?_ ?_); (first | exact rfl | decide +kernel)))
local macro_rules | `(tactic| walk_at "gq") => `(tactic| first
  | walk_at "g0"
  | ((with_reducible refine gLs ?_ ?_); (exact small_le (by simp))))
local macro_rules | `(tactic| walk_at "g2") => `(tactic| first
  | walk_at "gq"
  | with_reducible refine gAnd ?_
  | with_reducible refine gOr ?_)
local macro_rules | `(tactic| walk_at "go") => `(tactic| repeat walk_at "g2")
local macro_rules | `(tactic| walk_at "gp") => `(tactic| repeat walk_at "gq")
local macro_rules | `(tactic| walk_at "gn") => `(tactic| repeat (first | walk_at "g0" | with_reducible refine gAnd ?_ | with_reducible refine gOr ?_))

section
variable {P : Program} {w : World} {K : PySem.W.Frag} {mg : Str → Option Value} {base : Heap}

/-- a comprehension over range(n) whose turns change nothing -/
theorem lc_rng {ρ : Rho} {ω : Store} {x : KX} {k : KV} {da : LTA} {g : LTG} {te : LTE} {vs : List Nat} (n : Nat) (f : Nat → D) (hn : n < 1000000) (hi : ∀ k0 : List D → Store → Prop, k0 [.int (n : Int)] ω → da ρ ω x k0)
    (hg : ∀ i, i < n → ∀ (ω' : Store) (k1 : KV), k1 (f i) ω' → g (.int (i : Int)) (wipeD ρ vs) ω' X0 fun ρ2 ω2 => te ρ2 ω2 X0 k1) (q : k (.lst ((List.range n).map f)) ω) : dLc (diR1 da) g dYes te vs ρ ω x k := by
  have e : rngD 0 n = (List.range n).map fun (i : Nat) => D.int (i : Int) := by
    unfold rngD
    refine List.map_congr_left fun i _ => ?_
    rw [Int.zero_add]
  refine lc_map (List.range n) (fun (i : Nat) => D.int (i : Int)) f (small_lt (by rw [List.length_range]; exact hn)) (fun k0 h => hi _ ⟨n, rfl, by omega, by omega, ?_⟩) (fun i hi2 ω' k1 q1 => hg i (List.mem_range.mp hi2) ω' k1 q1) (.inl q)
  rw [Int.toNat_natCast, e]
  exact h (fun _ => True) trivial fun _ _ _ => trivial
/-! ### _law_sizes -/
abbrev szL (f : Fm) : D := .lst [.int (f.qn : Nat), .int (f.nn : Nat), .int (f.dd : Nat)]
def S_law_sizes (n : Nat) : DSp := fun ds ω x k => ∃ f : Fm, ds = [f.enc] ∧ f.depth ≤ n ∧ f.wid ≤ 1000 ∧ k (szL f) ω
theorem nns_sum : ∀ fs : List Fm, Fm.nns fs = sums Fm.nn fs
  | [] => rfl
  | f :: fs => congrArg (f.nn + ·) (nns_sum fs)
theorem qns_sum : ∀ fs : List Fm, Fm.qns fs = sums Fm.qn fs
  | [] => rfl
  | f :: fs => congrArg (f.qn + ·) (qns_sum fs)
theorem dds_max : ∀ fs : List Fm, Fm.dds fs = maxs Fm.dd fs
  | [] => rfl
  | f :: fs => congrArg (max f.dd ·) (dds_max fs)
def selF (i : Nat) (f : Fm) : Nat := if i = 0 then f.qn else f.nn
set_option maxHeartbeats 4000000 in
theorem ok__law_sizes (u__law_sizes : Tx K mg "_law_sizes" s__law_sizes ["f"]) (h__law_has_each : Df false P w K mg base CX0 113 "_law_has_each" s__law_has_each ["f"] (S_has_binder 112)) (z_sum : mg "sum" = none) (h__law_parts_of : Df false P w K mg base CX0 1 "_law_parts_of" s__law_parts_of ["f"] S_parts_of) (z_range : mg "range" = none) (z_max : mg "max" = none) : ∀ n, n ≤ 60 → Df false P w K mg base CX0 (n + 114) "_law_sizes" s__law_sizes ["f"] (S_law_sizes n) := by
  intro n
  induction n with
  | zero => exact fun _ => u__law_sizes.no fun ds ω x k ⟨f, _, h, _⟩ => by have := depth_pos f; omega
  | succ n ih =>
  intro hn200
  have h__law_sizes := ih (by omega)
  refine u__law_sizes.dfy sc__law_sizes (fun ds ω x k h => by obtain ⟨f, rfl, _⟩ := h; rfl) fun f_ cdv A out s_ H_ hG hr => ?_
  have nd := sc__law_sizes.nd
  refine ⟨_, _, (yss_cons (ys_set (i := 1) nd (ye_lc (own := [("own", 2)]) rfl nd (yi_seq (ye_call h__law_parts_of gF (hr.mono (by omega)) passAll (ya_cons (yv 0) ya_nil))) (blkOk_by (by kernel_rfl)) (og_name (by decide)) (fun _ _ _ _ _ => (yg_name (i := 2) nd)) (fun _ _ _ _ _ => yts_nil) (fun _ _ _ _ _ => (ye_call h__law_sizes gF (hr.mono (by omega)) passAll (ya_cons (yv 2) ya_nil)))))
    (yss_cons (ys_if (yt_cmp (yo_in (hu_of hr)) (ye_ix (yi_any (hu_of hr)) (yv 0) yint) (ye_tup (ya_cons ystr (ya_cons ystr ya_nil)))) (yss_one (ys_ret (ye_lst (ya_cons (ye_bin yo_add (ye_ix (yi_any (hu_of hr)) (ye_ix (yi_any (hu_of hr)) (yv 1) yint) yint) yint) (ya_cons (ye_ix (yi_any (hu_of hr)) (ye_ix (yi_any (hu_of hr)) (yv 1) yint) yint) (ya_cons (ye_ix (yi_any (hu_of hr)) (ye_ix (yi_any (hu_of hr)) (yv 1) yint) yint) ya_nil)))))) yss_nil)
    (yss_cons (ys_if (YW.yt (yw_and (yt_cmp (yo_eq hr.units) (ye_ix (yi_any (hu_of hr)) (yv 0) yint) ystr) (yw_and1 (yt_val (ye_call h__law_has_each gF (hr.mono (by omega)) passAll (ya_cons (yv 0) ya_nil)))))) (yss_cons (ys_setLc (i := 3) (own := [("k", 4)]) rfl nd (yi_r1 z_range (ya_cons yint ya_nil)) (blkOk_by (by kernel_rfl)) (og_name (by decide)) (fun _ _ _ _ _ => (yg_name (i := 4) nd)) (fun _ _ _ _ _ => yts_nil) (fun _ _ _ _ _ => (ye_bin yo_mul yint (ye_bin yo_add (ye_ix (yi_any (hu_of hr)) (ye_ix (yi_any (hu_of hr)) (yv 1) yint) (yv 4)) (ye_ix (yi_any (hu_of hr)) (ye_ix (yi_any (hu_of hr)) (yv 1) yint) (yv 4))))))
    (yss_one (ys_ret (ye_lst (ya_cons (ye_ix (yi_any (hu_of hr)) (yv 3) yint) (ya_cons (ye_bin yo_add (ye_ix (yi_any (hu_of hr)) (yv 3) yint) yint) (ya_cons (ye_bin yo_add yint (ye_cb (yc_max2 rfl) z_max PyProof.Rows.boot_max (ya_cons (ye_ix (yi_any (hu_of hr)) (ye_ix (yi_any (hu_of hr)) (yv 1) yint) yint) (ya_cons (ye_ix (yi_any (hu_of hr)) (ye_ix (yi_any (hu_of hr)) (yv 1) yint) yint) ya_nil)))) ya_nil))))))) yss_nil)
    (yss_cons (ys_setLc (i := 3) (own := [("k", 4)]) rfl nd (yi_r1 z_range (ya_cons yint ya_nil)) (blkOk_by (by kernel_rfl)) (og_name (by decide)) (fun _ _ _ _ _ => (yg_name (i := 4) nd)) (fun _ _ _ _ _ => yts_nil) (fun _ _ _ _ _ => (ye_cb (yc_sum rfl) z_sum PyProof.Rows.boot_sum (ya_cons (ye_lc (own := [("own", 2)]) rfl nd (yi_seq (yv 1)) (blkOk_by (by kernel_rfl)) (og_name (by decide)) (fun _ _ _ _ _ => (yg_name (i := 2) nd)) (fun _ _ _ _ _ => yts_nil) (fun _ _ _ _ _ => (ye_ix (yi_any (hu_of hr)) (yv 2) (yv 4)))) ya_nil))))
    (yss_one (ys_ret (ye_lst (ya_cons (ye_ix (yi_any (hu_of hr)) (yv 3) yint) (ya_cons (ye_bin yo_add (ye_ix (yi_any (hu_of hr)) (yv 3) yint) yint) (ya_cons (ye_bin yo_add yint (ye_cb (yc_max1 rfl) z_max PyProof.Rows.boot_max (ya_cons (ye_bin yo_add (ye_lst (ya_cons yint ya_nil)) (ye_lc (own := [("own", 2)]) rfl nd (yi_seq (yv 1)) (blkOk_by (by kernel_rfl)) (og_name (by decide)) (fun _ _ _ _ _ => (yg_name (i := 2) nd)) (fun _ _ _ _ _ => yts_nil) (fun _ _ _ _ _ => (ye_ix (yi_any (hu_of hr)) (yv 2) yint)))) ya_nil))) ya_nil)))))))))), fun ds ω x k h => ?_⟩
  obtain ⟨f, e, hd, hw, q⟩ := h
  have turn : ∀ (ρ : Rho) (s1 s2 s3 s4 : Option D) (f : Fm), ρ = [some f.enc, s1, s2, s3, s4] → f.depth ≤ n + 1 → f.wid ≤ 1000 → ∀ (ω : Store) (x : KX) (k : KV), k (.lst (f.parts.map szL)) ω → dLc (diSeq (dCB S_parts_of (dCons (dVar 0) dNil))) (gdName 2) dYes (dCB (S_law_sizes n) (dCons (dVar 2) dNil)) [2] ρ ω x k := by
    intro ρ s1 s2 s3 s4 f e hd hw ω x k q
    subst e
    refine lc_to f.parts Fm.enc szL _ rfl (fun k0 h => ?_) (small_lt (by have := parts_wid f; omega)) (fun g hg ω' k1 q1 => ?_) (.inl q)
    · walk_at "go"
      exact ⟨f, rfl, h _ (.inr (.inr rfl))⟩
    · walk_at "go"
      have h1 := part_depth hg
      have h2 := part_wid hg
      exact ⟨g, rfl, by omega, by omega, q1⟩
  have done : ∀ {a b c a' b' c' : Nat}, a = a' → b = b' → c = c' → k (.lst [.int (a : Nat), .int (b : Nat), .int (c : Nat)]) ω → k (.lst [.int (a' : Nat), .int (b' : Nat), .int (c' : Nat)]) ω := fun h1 h2 h3 z => by
    subst h1 h2 h3
    exact z
  have tail : ∀ (fs : List Fm) (hl : fs.length ≤ 1000) (ρ : Rho) (s0 s2 s3 s4 : Option D), ρ = [s0, some (.lst (fs.map szL)), s2, s3, s4] → ∀ (ω : Store) (x : KX) (k1 : KV), k1 (.lst [.int (Fm.qns fs : Nat), .int (Fm.nns fs : Nat)]) ω →
      dLc (diR1 (dCons (dC (.int 2)) dNil)) (gdName 4) dYes (dCB sSum (dCons (dLc (diSeq (dVar 1)) (gdName 2) dYes (dOp (sIx ⟨K, w⟩) (dVar 2) (dVar 4)) [2]) dNil)) [4] ρ ω x k1 := by
    intro fs hl ρ s0 s2 s3 s4 e ω x k1 q1
    subst e
    refine lc_rng 2 (fun i => .int (sums (selF i) fs : Nat)) (by omega) (fun k0 h => by walk_at "go"; exact h) (fun i hi ω' k2 q2 => ?_) ?_
    · walk_at "go"
      refine lc_to fs szL (fun g => .int (selF i g : Nat)) _ rfl (fun k0 h => ?_) (small_lt (by omega)) (fun g hg ω2 k3 q3 => ?_) (.inl ?_)
      · walk_at "go"
        exact h _ (.inl rfl)
      · have hi2 : i = 0 ∨ i = 1 := by omega
        rcases hi2 with rfl | rfl
        · walk_at "go"
          exact q3
        · walk_at "go"
          exact q3
      · walk_at "go"
        refine vSumN (f := selF i) ?_
        exact q2
    · rw [qns_sum, nns_sum] at q1
      exact q1
  have mx : ∀ (fs : List Fm) (hl : fs.length ≤ 1000) (ρ : Rho) (s0 s2 s3 s4 : Option D), ρ = [s0, some (.lst (fs.map szL)), s2, s3, s4] → ∀ (ω : Store) (x : KX) (k1 : KV), k1 (.lst (fs.map fun g => .int (g.dd : Nat))) ω → dLc (diSeq (dVar 1)) (gdName 2) dYes (dOp (sIx ⟨K, w⟩) (dVar 2) (dC (.int 2))) [2] ρ ω x k1 := by
    intro fs hl ρ s0 s2 s3 s4 e ω x k1 q1
    subst e
    refine lc_to fs szL (fun g => .int (g.dd : Nat)) _ rfl (fun k0 h => ?_) (small_lt (by omega)) (fun g hg ω2 k3 q3 => ?_) (.inl q1)
    · walk_at "go"
      exact h _ (.inl rfl)
    · walk_at "go"
      exact q3
  have c1 : ∀ a : Nat, D.int (1 + (a : Int)) = .int ((a + 1 : Nat) : Int) := fun a => by rw [Int.add_comm]; rfl
  cases f with
  | lt y =>
    have e : ds = [.tup [.str "letter", .str y]] := e
    subst e
    walk_at "go"
    refine turn _ _ _ _ _ (.lt y) rfl hd hw _ _ _ ?_
    walk_at "go"
    refine tail [] (by show 0 ≤ _; omega) _ _ _ _ _ rfl _ _ _ ?_
    walk_at "go"
    refine mx [] (by show 0 ≤ _; omega) _ _ _ _ _ rfl _ _ _ ?_
    walk_at "go"
    refine vAddL (.fr _) (.fr _) (by show 1 ≤ _; decide) (.inl ?_)
    walk_at "go"
    refine vMaxN (f := Fm.dd) (l := []) ?_
    walk_at "go"
    exact .of q
  | nt f =>
    have e : ds = [.tup [.str "not", f.enc]] := e
    subst e
    walk_at "go"
    refine turn _ _ _ _ _ (.nt f) rfl hd hw _ _ _ ?_
    walk_at "go"
    refine tail [f] (by show 1 ≤ _; omega) _ _ _ _ _ rfl _ _ _ ?_
    walk_at "go"
    refine mx [f] (by show 1 ≤ _; omega) _ _ _ _ _ rfl _ _ _ ?_
    walk_at "go"
    refine vAddL (.fr _) (.fr _) (by show 2 ≤ _; decide) (.inl ?_)
    walk_at "go"
    refine vMaxN (f := Fm.dd) (l := [f]) ?_
    walk_at "go"
    rw [c1]
    exact .of (done (show f.qn = f.qn + 0 from rfl) (show f.nn + 1 = f.nn + 0 + 1 from rfl) (show f.dd + 1 = max f.dd 0 + 1 by omega) q)
  | row b fs =>
    have hl : fs.length ≤ 1000 := by have : max fs.length (Fm.wids fs) ≤ 1000 := hw; omega
    have fin : ∀ (ω1 : Store), ω1 = ω → k (.lst [.int (Fm.qns fs : Nat), .int ((Fm.nns fs : Nat) + 1), .int (1 + (maxs Fm.dd fs : Nat))]) ω1 := fun ω1 e => by
      rw [e, c1, ← dds_max]
      exact q
    cases b with
    | true =>
      have e : ds = [.tup [.str "and", .tup (Fm.encs fs)]] := e
      subst e
      walk_at "go"
      refine turn _ _ _ _ _ (.row true fs) rfl hd hw _ _ _ ?_
      walk_at "go"
      refine tail fs hl _ _ _ _ _ rfl _ _ _ ?_
      walk_at "go"
      refine mx fs hl _ _ _ _ _ rfl _ _ _ ?_
      walk_at "go"
      refine vAddL (.fr _) (.fr _) (small_le (by rw [List.length_map]; show 1 + _ ≤ _; omega)) (.inl ?_)
      walk_at "go"
      refine vMaxN (f := Fm.dd) (l := fs) ?_
      walk_at "go"
      exact .of (fin _ rfl)
    | false =>
      have e : ds = [.tup [.str "or", .tup (Fm.encs fs)]] := e
      subst e
      walk_at "go"
      refine turn _ _ _ _ _ (.row false fs) rfl hd hw _ _ _ ?_
      walk_at "go"
      refine tail fs hl _ _ _ _ _ rfl _ _ _ ?_
      walk_at "go"
      refine mx fs hl _ _ _ _ _ rfl _ _ _ ?_
      walk_at "go"
      refine vAddL (.fr _) (.fr _) (small_le (by rw [List.length_map]; show 1 + _ ≤ _; omega)) (.inl ?_)
      walk_at "go"
      refine vMaxN (f := Fm.dd) (l := fs) ?_
      walk_at "go"
      exact .of (fin _ rfl)
  | sm f g =>
    have e : ds = [.tup [.str "same", f.enc, g.enc]] := e
    subst e
    walk_at "go"
    refine turn _ _ _ _ _ (.sm f g) rfl hd hw _ _ _ ?_
    walk_at "go"
    refine ⟨.sm f g, rfl, by omega, hw, ?_⟩
    walk_at "go"
    cases hp : (f.plain && g.plain) with
    | true =>
      refine gIff (show (!(f.plain && g.plain)) = false by rw [hp]; rfl) ?_
      walk_at "go"
      refine tail [f, g] (by show 2 ≤ _; omega) _ _ _ _ _ rfl _ _ _ ?_
      walk_at "go"
      refine mx [f, g] (by show 2 ≤ _; omega) _ _ _ _ _ rfl _ _ _ ?_
      walk_at "go"
      refine vAddL (.fr _) (.fr _) (by show 3 ≤ _; decide) (.inl ?_)
      walk_at "go"
      refine vMaxN (f := Fm.dd) (l := [f, g]) ?_
      walk_at "go"
      have hq : (Fm.sm f g).qn = 0 := qn_plain (.sm f g) hp
      have hn : (Fm.sm f g).nn = Fm.nns [f, g] + 1 := by
        show (if (f.plain && g.plain) = true then f.nn + g.nn + 1 else 2 * (f.nn + g.nn) + 5) = f.nn + (g.nn + 0) + 1
        rw [if_pos hp]
        rfl
      have hd2 : (Fm.sm f g).dd = maxs Fm.dd [f, g] + 1 := by
        show (if (f.plain && g.plain) = true then max f.dd g.dd + 1 else max f.dd g.dd + 3) = max f.dd (max g.dd 0) + 1
        rw [if_pos hp]
        omega
      rw [c1]
      exact .of (done (hq.trans (show 0 = f.qn + (g.qn + 0) by have hq : 2 * (f.qn + g.qn) = 0 := hq; omega)) hn hd2 q)
    | false =>
      refine gIt (show (!(f.plain && g.plain)) = true by rw [hp]; rfl) ?_
      walk_at "go"
      refine lc_rng 2 (fun i => .int (2 * (selF i f + selF i g) : Nat)) (by omega) (fun k0 h => by walk_at "go"; exact h) (fun i hi ω' k2 q2 => ?_) ?_
      · have hi2 : i = 0 ∨ i = 1 := by omega
        rcases hi2 with rfl | rfl
        · walk_at "go"
          refine vMul (.inl (by decide)) ?_
          exact q2
        · walk_at "go"
          refine vMul (.inl (by decide)) ?_
          exact q2
      · walk_at "go"
        have hn : (Fm.sm f g).nn = 2 * (f.nn + g.nn) + 5 := by
          show (if (f.plain && g.plain) = true then f.nn + g.nn + 1 else 2 * (f.nn + g.nn) + 5) = _
          rw [if_neg (by rw [hp]; exact Bool.false_ne_true)]
        have hd2 : (Fm.sm f g).dd = max f.dd g.dd + 3 := by
          show (if (f.plain && g.plain) = true then max f.dd g.dd + 1 else max f.dd g.dd + 3) = _
          rw [if_neg (by rw [hp]; exact Bool.false_ne_true)]
        rw [max_nat, show D.int (3 + ((max f.dd g.dd : Nat) : Int)) = .int ((max f.dd g.dd + 3 : Nat) : Int) by rw [Int.add_comm]; rfl]
        exact .of (done (show 2 * (f.qn + g.qn) = 2 * (f.qn + g.qn) from rfl) hn hd2 q)
  | qt b y f =>
    cases b with
    | true =>
      have e : ds = [.tup [.str "each", .str y, f.enc]] := e
      subst e
      walk_at "go"
      refine turn _ _ _ _ _ (.qt true y f) rfl hd hw _ _ _ ?_
      walk_at "go"
      exact .of q
    | false =>
      have e : ds = [.tup [.str "some", .str y, f.enc]] := e
      subst e
      walk_at "go"
      refine turn _ _ _ _ _ (.qt false y f) rfl hd hw _ _ _ ?_
      walk_at "go"
      exact .of q
end
end L3
namespace L3
open PySem L2 PySem.Spec PyProof.Rows
open PySem (PyData)
local macro_rules | `(tactic| walk_at "g1") => `(tactic| with_reducible first
  | refine gSeq ?_ | refine gIfS ?_ | refine gTest ?_ | refine gOp ?_ | refine gCons ?_ | refine gNil ?_ | refine gC ?_ | refine gCB ?_ | refine gAsgNew ?_ | refine gAsg ?_ | refine gRet ?_ | refine gTup ?_ | refine gLst ?_
  | refine gBl ?_ | refine gName ?_ | refine gNot ?_ | refine gAndV ?_ | refine gOrV ?_ | refine gNotV ?_ | refine gIf ?_ | refine gTru ?_ | refine gTrB ?_ | refine gTrT ?_ | refine gTrL ?_ | refine gUn ?_ | refine gDrop ?_ | refine gNext ?_ | refine gSub ?_ | refine gSl ?_ | refine gPart ?_ | refine gPa ?_ | refine gNoP ?_ | refine gPar ?_ | refine gPar3 ?_ | refine gPar32 ?_ | refine gRev ?_ | refine gRvF ?_ | refine gPar2 ?_ | refine gNx ?_ | refine gRtS ?_ | refine gCtS ?_ | refine gBkS ?_ | refine gNxL ?_ | refine gCtL ?_ | refine gBkL ?_ | refine gRtL ?_ | refine gRtU ?_ | refine gNxU ?_ | refine gFor ?_ | refine gForC ?_ | refine gForN ?_ | refine gBM ?_ | refine gBM0 ?_ | refine gCallK ?_
  | refine gdConsI ?_ | refine gdNilI ?_ | refine vEqS ?_ | refine vEqI ?_ | refine vEqB ?_ | refine vNeS ?_ | refine vNeI ?_ | refine vNeB ?_ | refine vAddI ?_ | refine vSub ?_ | refine vNeg ?_ | refine vLt ?_ | refine vLe ?_ | refine vGt ?_ | refine vGe ?_ | refine vMax2 ?_ | refine vMin2 ?_ | refine vAbs ?_ | refine vIntI ?_ | refine vIntB ?_ | refine vLenF ?_ | refine vLenQ ?_ | refine vLenT ?_ | refine vSumF ?_ | refine vAnyF ?_ | refine vAllF ?_ | refine vTupF ?_ | refine vTupT ?_ | refine vSlT1 ?_ | refine vSlT2 ?_)
local macro_rules | `(tactic| walk_at "g0") => `(tactic| first
  | walk_at "g1"
  | ((with_reducible apply gVar); (exact rfl))
  | ((with_reducible apply vIxT); (exact rfl))
  | ((with_reducible apply vIxF); (exact rfl))
  | ((with_reducible refine vInTb ?_ ?_ ?_); (exact rfl); (exact rfl))
  | ((with_reducible refine vNinTb ?_ ?_ ?_); (exact rfl); (exact rfl))
  | ((with_reducible refine vInLb ?_ ?_ ?_); (exact rfl); (exact rfl))
  | ((with_reducible refine vNinLb ?_ ?_ ?_); (exact rfl); (exact rfl))
  | ((with_reducible refine gdTupT ?_ ?_); (exact rfl))
  | ((with_reducible refine gdTupL ?_ ?_); (exact rfl))
  | ((with_reducible refine gTu ?_ ?_); (exact small_le (by simp)))
  | ((with_reducible refine gIt ?_ ?_); (first | exact rfl | exact decide_eq_true rfl | decide +kernel))
  | ((with_reducible refine gIff ?_ ?_); (first | exact rfl | decide +kernel)))
local macro_rules | `(tactic| walk_at "gq") => `(tactic| first
  | walk_at "g0"
  | ((with_reducible refine gLs ?_ ?_); (exact small_le (by simp))))
local macro_rules | `(tactic| walk_at "g2") => `(tactic| first
  | walk_at "gq"
  | with_reducible refine gAnd ?_
  | with_reducible refine gOr ?_)
local macro_rules | `(tactic| walk_at "go") => `(tactic| repeat walk_at "g2")
local macro_rules | `(tactic| walk_at "gp") => `(tactic| repeat walk_at "gq")
local macro_rules | `(tactic| walk_at "gn") => `(tactic| repeat (first | walk_at "g0" | with_reducible refine gAnd ?_ | with_reducible refine gOr ?_))

section
variable {P : Program} {w : World} {K : PySem.W.Frag} {mg : Str → Option Value} {base : Heap}

/-! ### _law_closed -/
structure CloG (f : Fm) : Prop where
  inn : f.inn [] = true
  named : f.named okName = true
  depth : f.depth ≤ 27
  nodes : f.nodes ≤ 200
def S_closed : DSp := fun ds ω x k => ∃ (p g : Addr) (many size : Int), ds = [.ptr p, .int many, .int size] ∧ BagF p g ω ∧ 0 ≤ many ∧ many ≤ 6 ∧ 1 ≤ size ∧ size ≤ 15 ∧ ∀ f ω', CloG f → BagF p g ω' → Frm p g ω ω' → k f.enc ω'
theorem take_last {ns : List Str} {i : Nat} (h : i < ns.length) : ∃ s, (ns.map D.str).reverse[i]? = some (.str s) ∧ ns.take (ns.length - i) = ns.take (ns.length - (i + 1)) ++ [s] ∧ s ∈ ns := by
  have h1 : ns.length - 1 - i < ns.length := by omega
  refine ⟨ns[ns.length - 1 - i], ?_, ?_, List.getElem_mem h1⟩
  · rw [List.getElem?_reverse (by rw [List.length_map]; exact h), List.length_map, List.getElem?_map, List.getElem?_eq_getElem h1]
    rfl
  · have e : ns.length - i = (ns.length - 1 - i) + 1 := by omega
    have e2 : ns.length - (i + 1) = ns.length - 1 - i := by omega
    rw [e, e2, List.take_add_one, List.getElem?_eq_getElem h1]
    rfl
theorem ok__law_closed (u__law_closed : Tx K mg "_law_closed" s__law_closed ["bag", "many", "size"]) (h__law_formula : Df false P w K mg base CX0 33 "_law_formula" s__law_formula ["bag", "names", "size", "more"] (S_formula 30)) (h__law_take : Df false P w K mg base CX0 1 "_law_take" s__law_take ["bag", "many"] S_take) (z_min : mg "min" = none) (h__law_pick : Df false P w K mg base CX0 2 "_law_pick" s__law_pick ["bag", "some"] S_pick) : Df false P w K mg base CX0 34 "_law_closed" s__law_closed ["bag", "many", "size"] S_closed := by
  refine u__law_closed.dfy sc__law_closed (fun ds ω x k h => by obtain ⟨p, g, many, size, rfl, _⟩ := h; rfl) fun f_ cdv A out s_ H_ hG hr => ?_
  have nd := sc__law_closed.nd
  refine ⟨_, _, (yss_cons (ys_par (i := 3) (j := 4) rfl nd (ya_cons (ye_call h__law_take gF (hr.mono (by omega)) passAll (ya_cons (yv 0) (ya_cons yint ya_nil))) (ya_cons (ye_slice yl_any (ye_lst (ya_cons ystr (ya_cons ystr (ya_cons ystr (ya_cons ystr (ya_cons ystr (ya_cons ystr ya_nil))))))) yp_none (yp_some (yv 1))) ya_nil)))
    (yss_cons (ys_if (yt_cmp (yo_eq hr.units) (yv 3) yint) (yss_one (ys_ret (ye_call h__law_formula gF (hr.mono (by omega)) passAll (ya_cons (yv 0) (ya_cons (ye_lst ya_nil) (ya_cons (yv 2) (ya_cons (ye_cb (yc_min2 rfl) z_min PyProof.Rows.boot_min (ya_cons (yv 1) (ya_cons yint ya_nil))) ya_nil))))))) yss_nil)
    (yss_cons (ys_set (i := 5) nd (ye_call h__law_formula gF (hr.mono (by omega)) passAll (ya_cons (yv 0) (ya_cons (yv 4) (ya_cons (yv 2) (ya_cons yint ya_nil))))))
    (yss_cons (ys_for PassesOwn.never rfl (yi_seq (ye_rev (yv 4))) (yg_name (i := 6) nd) (yss_cons (ys_set (i := 5) nd (ye_tup (ya_cons (ye_call h__law_pick gF (hr.mono (by omega)) passAll (ya_cons (yv 0) (ya_cons (ye_lst (ya_cons ystr (ya_cons ystr ya_nil))) ya_nil))) (ya_cons (yv 6) (ya_cons (yv 5) ya_nil)))))
    (yss_one (ys_set (i := 5) nd (ye_if (yt_cmp (yo_eq hr.units) (ye_call h__law_take gF (hr.mono (by omega)) passAll (ya_cons (yv 0) (ya_cons yint ya_nil))) yint) (ye_tup (ya_cons ystr (ya_cons (yv 5) ya_nil))) (yv 5))))))
    (yss_cons (ys_if (YW.yt (yw_and (yt_cmp (yo_eq hr.units) (yv 3) yint) (yw_and1 (yt_cmp yo_lt (yv 1) yint)))) (yss_one (ys_ret (ye_tup (ya_cons ystr (ya_cons (yv 5) (ya_cons (ye_tup (ya_cons (ye_call h__law_pick gF (hr.mono (by omega)) passAll (ya_cons (yv 0) (ya_cons (ye_lst (ya_cons ystr (ya_cons ystr ya_nil))) ya_nil))) (ya_cons ystr (ya_cons (ye_tup (ya_cons ystr (ya_cons ystr ya_nil))) ya_nil)))) ya_nil)))))) yss_nil)
    (yss_one (ys_ret (yv 5)))))))), fun ds ω x k h => ?_⟩
  obtain ⟨p, g, many, size, rfl, hb, h1, h2, h3, h4, q⟩ := h
  walk_at "go"
  refine vTake hb (by omega) (by omega) fun way ω1 w1 w2 hb1 fr1 => ?_
  walk_at "go"
  refine vSlL (.fr _) (.inl ?_)
  rw [cut_take _ h1]
  obtain ⟨ns, hns, hnl, hno⟩ : ∃ ns : List Str, List.take many.toNat [D.str "x", D.str "y", D.str "z", D.str "u", D.str "w", D.str "t"] = ns.map D.str ∧ (ns.length ≤ 6 ∧ (ns.length : Int) ≤ many) ∧ ∀ s ∈ ns, okName s = true :=
    ⟨(["x", "y", "z", "u", "w", "t"] : List Str).take many.toNat, by rw [List.map_take]; rfl, ⟨by rw [List.length_take]; exact Nat.min_le_right _ _, by rw [List.length_take]; omega⟩, fun s hs => List.all_eq_true.mp (show (["x", "y", "z", "u", "w", "t"] : List Str).all okName = true by decide +kernel) s (List.mem_of_mem_take hs)⟩
  obtain ⟨hnl, hnm⟩ := hnl
  rw [hns]
  walk_at "go"
  refine gI2 (fun c => ?_) fun c => ?_
  · walk_at "go"
    refine ⟨p, g, [], size, min many 3, rfl, hb1, by omega, by omega, by omega, by show min many 3 + ((0 : Nat) : Int) ≤ 1000; omega, (by intro s hs; cases hs), fun f ω2 gf hb2 fr2 => ?_⟩
    have f1 := gf.depth
    have f2 := gf.nodes
    exact .of (q f _ ⟨gf.inn, gf.named, by omega, by omega⟩ hb2 (fr1.tr fr2))
  · walk_at "go"
    refine ⟨p, g, ns, size, 0, rfl, hb1, by omega, by omega, by omega, by omega, hno, fun f ω2 gf hb2 fr2 => ?_⟩
    have f1 := gf.depth
    have f2 := gf.nodes
    walk_at "go"
    refine forK_inv (ns.map D.str).reverse (fun i ρ ω' => ∃ (f : Fm) (s6 : Option D), ρ = [some (.ptr p), some (.int many), some (.int size), some (.int way), some (.lst (ns.map D.str)), some f.enc, s6] ∧ f.inn (ns.take (ns.length - i)) = true ∧ f.named okName = true ∧ f.depth ≤ 15 + 2 * i ∧ f.nodes ≤ 60 + 2 * i ∧ BagF p g ω' ∧ Frm p g ω ω') (.inl rfl) ⟨f, _, rfl, by rw [Nat.sub_zero, List.take_length]; exact gf.inn, gf.named, by omega, by omega, hb2, fr1.tr fr2⟩ (fun i d ρ ω3 hd ⟨f, s6, e, i1, i2, i3, i4, hb3, fr3⟩ => ?_) fun ρ ω3 ⟨f, s6, e, i1, i2, i3, i4, hb3, fr3⟩ => ?_
    · have hi : i < ns.length := by have := (List.getElem?_eq_some_iff.mp hd).1; rw [List.length_reverse, List.length_map] at this; exact this
      obtain ⟨s, e1, e2, e3⟩ := take_last hi
      rw [e1] at hd
      cases hd
      subst e
      rw [e2] at i1
      walk_at "go"
      refine vPick hb3 (by show 1 ≤ 2; omega) (by show 2 ≤ _; omega) fun e ω4 he hb4 fr4 => ?_
      obtain ⟨b, rfl⟩ := of_qd he
      walk_at "go"
      refine vTake hb4 (by omega) (by omega) fun r ω5 r1 r2 hb5 fr5 => ?_
      have n1 : (Fm.qt b s f).named okName = true := by show (okName s && f.named okName) = true; rw [hno s e3, i2]; rfl
      walk_at "go"
      refine gI2 (fun c2 => ?_) fun c2 => ?_
      · walk_at "go"
        exact ⟨.nt (.qt b s f), _, rfl, i1, n1, by show f.depth + 1 + 1 ≤ _; omega, by show f.nodes + 1 + 1 ≤ _; omega, hb5, fr3.tr (fr4.tr fr5)⟩
      · walk_at "go"
        exact ⟨.qt b s f, _, rfl, i1, n1, by show f.depth + 1 ≤ _; omega, by show f.nodes + 1 ≤ _; omega, hb5, fr3.tr (fr4.tr fr5)⟩
    · rw [List.length_reverse, List.length_map] at i1 i3 i4
      rw [Nat.sub_self, List.take_zero] at i1
      subst e
      walk_at "gp"
      refine gAndP (b1 := decide (way = 1)) (b2 := decide (many < 3)) (fun kb z => by walk_at "gp"; exact z) (fun kb z => by walk_at "gp"; exact z) ?_
      refine gI2 (fun c2 => ?_) fun c2 => ?_
      · walk_at "go"
        refine vPick hb3 (by show 1 ≤ 2; omega) (by show 2 ≤ _; omega) fun e ω4 he hb4 fr4 => ?_
        obtain ⟨b, rfl⟩ := of_qd he
        walk_at "go"
        refine .of (q (.sm f (.qt b "x" (.lt "x"))) _ ⟨?_, ?_, ?_, ?_⟩ hb4 (fr3.tr fr4))
        · show (f.inn [] && Fm.inn (([] : List Str) ++ (["x"] : List Str)) (.lt "x")) = true
          rw [i1]
          decide +kernel
        · show (f.named okName && (okName "x" && okName "x")) = true
          rw [i2]
          decide +kernel
        · show max f.depth 2 + 1 ≤ 27
          have hm : many < 3 := by rw [Bool.and_eq_true] at c2; exact of_decide_eq_true c2.2
          omega
        · show f.nodes + 2 + 1 ≤ 200
          omega
      · walk_at "go"
        exact .of (q f _ ⟨i1, i2, by omega, by omega⟩ hb3 fr3)
/-! ### _law_is_told, _law_is_let -/
def S_told : DSp := fun ds ω x k => ∃ (f : Fm) (b : Bool), ds = [f.enc, .bl b] ∧ Clo f ∧ k (.bl true) ω
abbrev preP (f : Fm) : PyData := .tuple [.tuple (qsP 0 (preF f).2), (preF f).1.py]
theorem pre_py (ω : Store) (f : Fm) : Py ω (preD f) (preP f) := .tup (.cons (.tup (qs_py ω _ 0)) (.cons (enc_py ω _) .nil))
theorem told_pre {f : Fm} (h : Clo f) : Told (preP f) 90 1000000 := by
  have l : (preF f).2.length = f.qn := pull_len f true id 0
  have n : (preF f).1.nodes = f.nn := pull_nodes f true id 0
  have d : (preF f).1.depth = f.dd := pull_depth f true id 0
  have h4 := h.qn
  have h5 := h.nn
  have h6 := h.dd
  have t1 := told_qs (preF f).2 0 (by omega)
  have t2 := told_fm (preF f).1 (pull_named f [] true id 0 h.inn (fun x hx => by cases hx) (by omega))
  exact (Tolds.tup (.cons (t1.tup.mono (n' := 85) (by omega) (Nat.le_refl _)) (.cons (t2.mono (n' := 85) (by omega) (Nat.le_refl _)) .nil))).mono (by omega) (by omega)
theorem ok__law_is_told (u__law_is_told : Tx K mg "_law_is_told" s__law_is_told ["f", "is_named"]) (z_repr : mg "repr" = none) (h_prenex : Df false P w K mg base CX0 227 "prenex" s_prenex ["formula"] S_prenex) (h__law_prenexed : Df false P w K mg base CX0 227 "_law_prenexed" s__law_prenexed ["f"] S_prenex) : Df true P w K mg base CX0 228 "_law_is_told" s__law_is_told ["f", "is_named"] S_told := by
  refine u__law_is_told.dfy sc__law_is_told (fun ds ω x k h => by obtain ⟨f, b, rfl, _⟩ := h; rfl) fun f_ cdv A out s_ H_ hG hr => ?_
  have nd := sc__law_is_told.nd
  refine ⟨_, _, (yss_cons (ys_par (i := 2) (j := 3) rfl nd (ya_cons (ye_cb (yc_repr (hG rfl) (room200 hr)) z_repr PyProof.Rows.boot_repr (ya_cons (yv 0) ya_nil)) (ya_cons (ye_cb (yc_repr (hG rfl) (room200 hr)) z_repr PyProof.Rows.boot_repr (ya_cons (ye_call h__law_prenexed gF (hr.mono (by omega)) passAll (ya_cons (yv 0) ya_nil)) ya_nil)) ya_nil)))
    (yss_cons (ys_set (i := 4) nd (ye_if (yt_tru (yv 1)) (ye_callK0 (ks := ["formula"]) ord_only h_prenex (fun _ _ _ _ _ _ us ws hl => match us, ws, hl with | [], [_], _ => rfl | _ :: _, _, hl => nomatch (show 0 = 1 from hl)) gF (hr.mono (by omega)) passAll (yk_cons (yv 0) yk_nil)) (ye_call h_prenex gF (hr.mono (by omega)) passAll (ya_cons (yv 0) ya_nil))))
    (yss_one (ys_ret (ye_and (ye_cmp (yo_eq hr.units) (ye_cb (yc_repr (hG rfl) (room200 hr)) z_repr PyProof.Rows.boot_repr (ya_cons (yv 4) ya_nil)) (yv 3)) (ye_and (ye_cmp (yo_eq hr.units) (ye_cb (yc_repr (hG rfl) (room200 hr)) z_repr PyProof.Rows.boot_repr (ya_cons (ye_call h_prenex gF (hr.mono (by omega)) passAll (ya_cons (yv 0) ya_nil)) ya_nil)) (yv 3)) (ye_one (ye_cmp (yo_eq hr.units) (ye_cb (yc_repr (hG rfl) (room200 hr)) z_repr PyProof.Rows.boot_repr (ya_cons (yv 0) ya_nil)) (yv 2))))))))), fun ds ω x k h => ?_⟩
  obtain ⟨f, b, rfl, h, q⟩ := h
  have t1 := told_fm f h.nm
  have t2 := told_pre h
  have d1 := h.dp
  have d2 := h.nd
  walk_at "go"
  refine vReprT (enc_py ω f) t1 (by omega) (by omega) ?_
  walk_at "go"
  refine ⟨f, rfl, h, ?_⟩
  walk_at "go"
  refine vReprT (pre_py ω f) t2 (by omega) (by omega) ?_
  walk_at "go"
  cases b with
  | true =>
    walk_at "go"
    refine ⟨f, rfl, h, ?_⟩
    walk_at "go"
    refine vReprT (pre_py ω f) t2 (by omega) (by omega) ?_
    walk_at "go"
    refine ⟨f, rfl, h, ?_⟩
    walk_at "go"
    refine vReprT (pre_py ω f) t2 (by omega) (by omega) ?_
    walk_at "go"
    refine vReprT (enc_py ω f) t1 (by omega) (by omega) ?_
    walk_at "go"
    rw [decide_eq_true rfl]
    exact .of q
  | false =>
    walk_at "go"
    refine ⟨f, rfl, h, ?_⟩
    walk_at "go"
    refine vReprT (pre_py ω f) t2 (by omega) (by omega) ?_
    walk_at "go"
    refine ⟨f, rfl, h, ?_⟩
    walk_at "go"
    refine vReprT (pre_py ω f) t2 (by omega) (by omega) ?_
    walk_at "go"
    refine vReprT (enc_py ω f) t1 (by omega) (by omega) ?_
    walk_at "go"
    rw [decide_eq_true rfl]
    exact .of q
def letB (f : Fm) : Bool := decide (f.qn < 61) && (decide (f.nn < 250) && decide (f.dd < 41))
def S_let : DSp := fun ds ω x k => ∃ f : Fm, ds = [f.enc] ∧ f.depth ≤ 60 ∧ f.wid ≤ 1000 ∧ k (.bl (letB f)) ω
theorem ok__law_is_let (u__law_is_let : Tx K mg "_law_is_let" s__law_is_let ["f"]) (h__law_sizes : Df false P w K mg base CX0 174 "_law_sizes" s__law_sizes ["f"] (S_law_sizes 60)) : Df false P w K mg base CX0 175 "_law_is_let" s__law_is_let ["f"] S_let := by
  refine u__law_is_let.dfy sc__law_is_let (fun ds ω x k h => by obtain ⟨f, rfl, _⟩ := h; rfl) fun f_ cdv A out s_ H_ hG hr => ?_
  have nd := sc__law_is_let.nd
  refine ⟨_, _, (yss_cons (ys_asg (ye_call h__law_sizes gF (hr.mono (by omega)) passAll (ya_cons (yv 0) ya_nil)) (yg_tup rfl (ygs_cons (yg_name (i := 1) nd) (ygs_cons (yg_name (i := 2) nd) (ygs_cons (yg_name (i := 3) nd) ygs_nil)))))
    (yss_one (ys_ret (ye_and (ye_cmp yo_lt (yv 1) yint) (ye_and (ye_cmp yo_lt (yv 2) yint) (ye_one (ye_cmp yo_lt (yv 3) yint))))))), fun ds ω x k h => ?_⟩
  obtain ⟨f, rfl, h1, h2, q⟩ := h
  have d1 : decide (((f.qn : Nat) : Int) < 61) = decide (f.qn < 61) := decide_eq_decide.mpr (by omega)
  have d2 : decide (((f.nn : Nat) : Int) < 250) = decide (f.nn < 250) := decide_eq_decide.mpr (by omega)
  have d3 : decide (((f.dd : Nat) : Int) < 41) = decide (f.dd < 41) := decide_eq_decide.mpr (by omega)
  unfold letB at q
  walk_at "go"
  refine ⟨f, rfl, h1, h2, ?_⟩
  walk_at "go"
  rw [d1]
  refine gI2 (fun c1 => ?_) fun c1 => ?_
  · rw [c1] at q
    walk_at "go"
    rw [d2]
    refine gI2 (fun c2 => ?_) fun c2 => ?_
    · rw [c2] at q
      walk_at "go"
      rw [d3]
      exact .of q
    · rw [c2] at q
      walk_at "go"
      exact .of q
  · rw [c1] at q
    walk_at "go"
    exact .of q
theorem clo_of {f : Fm} (h1 : f.inn [] = true) (h2 : f.named okName = true) (h3 : f.depth ≤ 28) (h4 : f.nodes ≤ 1000) (h5 : letB f = true) : Clo f := by
  unfold letB at h5
  simp only [Bool.and_eq_true, decide_eq_true_eq] at h5
  have := mu_depth f
  have := wid_nodes f
  exact ⟨h1, by omega, by omega, by omega, by omega, by omega, by omega, h2, by omega⟩
end
end L3
namespace L3
open PySem L2 PySem.Spec PyProof.Rows
open PySem (PyData)
local macro_rules | `(tactic| walk_at "g1") => `(tactic| with_reducible first
  | refine gSeq ?_ | refine gIfS ?_ | refine gTest ?_ | refine gOp ?_ | refine gCons ?_ | refine gNil ?_ | refine gC ?_ | refine gCB ?_ | refine gAsgNew ?_ | refine gAsg ?_ | refine gRet ?_ | refine gTup ?_ | refine gLst ?_
  | refine gBl ?_ | refine gName ?_ | refine gNot ?_ | refine gAndV ?_ | refine gOrV ?_ | refine gNotV ?_ | refine gIf ?_ | refine gTru ?_ | refine gTrB ?_ | refine gTrT ?_ | refine gTrL ?_ | refine gUn ?_ | refine gDrop ?_ | refine gNext ?_ | refine gSub ?_ | refine gSl ?_ | refine gPart ?_ | refine gPa ?_ | refine gNoP ?_ | refine gPar ?_ | refine gPar3 ?_ | refine gPar32 ?_ | refine gRev ?_ | refine gRvF ?_ | refine gPar2 ?_ | refine gNx ?_ | refine gRtS ?_ | refine gCtS ?_ | refine gBkS ?_ | refine gNxL ?_ | refine gCtL ?_ | refine gBkL ?_ | refine gRtL ?_ | refine gRtU ?_ | refine gNxU ?_ | refine gFor ?_ | refine gForC ?_ | refine gForN ?_ | refine gBM ?_ | refine gBM0 ?_ | refine gCallK ?_
  | refine gdConsI ?_ | refine gdNilI ?_ | refine vEqS ?_ | refine vEqI ?_ | refine vEqB ?_ | refine vNeS ?_ | refine vNeI ?_ | refine vNeB ?_ | refine vAddI ?_ | refine vSub ?_ | refine vNeg ?_ | refine vLt ?_ | refine vLe ?_ | refine vGt ?_ | refine vGe ?_ | refine vMax2 ?_ | refine vMin2 ?_ | refine vAbs ?_ | refine vIntI ?_ | refine vIntB ?_ | refine vLenF ?_ | refine vLenQ ?_ | refine vLenT ?_ | refine vSumF ?_ | refine vAnyF ?_ | refine vAllF ?_ | refine vTupF ?_ | refine vTupT ?_ | refine vSlT1 ?_ | refine vSlT2 ?_)
local macro_rules | `(tactic| walk_at "g0") => `(tactic| first
  | walk_at "g1"
  | ((with_reducible apply gVar); (exact rfl))
  | ((with_reducible apply vIxT); (exact rfl))
  | ((with_reducible apply vIxF); (exact rfl))
  | ((with_reducible refine vInTb ?_ ?_ ?_); (exact rfl); (exact rfl))
  | ((with_reducible refine vNinTb ?_ ?_ ?_); (exact rfl); (exact rfl))
  | ((with_reducible refine vInLb ?_ ?_ ?_); (exact rfl); (exact rfl))
  | ((with_reducible refine vNinLb ?_ ?_ ?_); (exact rfl); (exact rfl))
  | ((with_reducible refine gdTupT ?_ ?_); (exact rfl))
  | ((with_reducible refine gdTupL ?_ ?_); (exact rfl))
  | ((with_reducible refine gTu ?_ ?_); (exact small_le (by simp)))
  | ((with_reducible refine gIt ?_ ?_); (first | exact rfl | exact decide_eq_true rfl | decide +kernel))
  | ((with_reducible refine gIff ?_ ?_); (first | exact rfl | decide +kernel)))
local macro_rules | `(tactic| walk_at "gq") => `(tactic| first
  | walk_at "g0"
  | ((with_reducible refine gLs ?_ ?_); (exact small_le (by simp))))
local macro_rules | `(tactic| walk_at "g2") => `(tactic| first
  | walk_at "gq"
  | with_reducible refine gAnd ?_
  | with_reducible refine gOr ?_)
local macro_rules | `(tactic| walk_at "go") => `(tactic| repeat walk_at "g2")
local macro_rules | `(tactic| walk_at "gp") => `(tactic| repeat walk_at "gq")
local macro_rules | `(tactic| walk_at "gn") => `(tactic| repeat (first | walk_at "g0" | with_reducible refine gAnd ?_ | with_reducible refine gOr ?_))

section
variable {P : Program} {w : World} {K : PySem.W.Frag} {mg : Str → Option Value} {base : Heap}

/-! ### law -/
def fShadow : Fm := .qt true "x" (.row true [.lt "x", .qt false "x" (.row false [.lt "x", .nt (.lt "x")]), .lt "x"])
def fSome : List Fm := [fShadow, .nt (.nt fShadow), .qt true "v1" (.qt false "v2" (.sm (.lt "v1") (.lt "v2"))), .qt true "v2" (.qt false "v1" (.sm (.lt "v2") (.lt "v1"))),
  .qt true "x" (.sm (.sm (.lt "x") (.row false [])) (.qt false "y" (.sm (.lt "x") (.lt "y")))), .qt true "x" (.qt false "y" (.nt (.qt true "z" (.row false [.lt "x", .lt "y", .lt "z"]))))]
def cloB (f : Fm) : Bool := f.inn [] && f.named okName && decide (f.depth ≤ 28) && decide (f.nodes ≤ 1000) && letB f
theorem clo_b {f : Fm} (h : cloB f = true) : Clo f := by
  unfold cloB at h
  simp only [Bool.and_eq_true, decide_eq_true_eq] at h
  exact clo_of h.1.1.1.1 h.1.1.1.2 h.1.1.2 h.1.2 h.2
theorem fSome_clo : fSome.all cloB = true := by decide +kernel
def fOwn (f : Fm) : List Fm := [f, .nt f, .sm f (.qt false "x" (.qt true "x" (.lt "x")))]
theorem own_ok {f o : Fm} (h : CloG f) (ho : o ∈ fOwn f) : o.inn [] = true ∧ o.named okName = true ∧ o.depth ≤ 28 ∧ o.nodes ≤ 300 := by
  have h3 := h.depth
  have h4 := h.nodes
  rcases List.mem_cons.mp ho with e | ho
  · rw [e]
    exact ⟨h.inn, h.named, by omega, by omega⟩
  rcases List.mem_cons.mp ho with e | ho
  · rw [e]
    exact ⟨h.inn, h.named, by show f.depth + 1 ≤ 28; omega, by show f.nodes + 1 ≤ 300; omega⟩
  · rw [List.mem_singleton.mp ho]
    refine ⟨?_, ?_, by show max f.depth 3 + 1 ≤ 28; omega, by show f.nodes + 3 + 1 ≤ 300; omega⟩
    · show (f.inn [] && Fm.inn [] (.qt false "x" (.qt true "x" (.lt "x")))) = true
      rw [h.inn]
      decide +kernel
    · show (f.named okName && Fm.named okName (.qt false "x" (.qt true "x" (.lt "x")))) = true
      rw [h.named]
      decide +kernel
theorem of_ints {l : List D} {e : D} (h : e ∈ l) {m : Int} (hl : l.all (fun d => match d with | .int i => decide (1 ≤ i) && decide (i ≤ m) | _ => false) = true) : ∃ i : Int, e = .int i ∧ 1 ≤ i ∧ i ≤ m := by
  have q := List.all_eq_true.mp hl e h
  cases e with
  | int i =>
    have q : (decide (1 ≤ i) && decide (i ≤ m)) = true := q
    rw [Bool.and_eq_true] at q
    exact ⟨i, rfl, of_decide_eq_true q.1, of_decide_eq_true q.2⟩
  | _ => cases q
set_option maxHeartbeats 4000000 in
theorem ok_law (u_law : Tx K mg "law" s_law ["script"]) (h__law_bag : Df false P w K mg base CX0 1 "_law_bag" s__law_bag ["script"] S_bag) (z_range : mg "range" = none) (h__law_closed : Df false P w K mg base CX0 34 "_law_closed" s__law_closed ["bag", "many", "size"] S_closed) (h__law_take : Df false P w K mg base CX0 1 "_law_take" s__law_take ["bag", "many"] S_take) (h__law_pick : Df false P w K mg base CX0 2 "_law_pick" s__law_pick ["bag", "some"] S_pick) (h__law_formula : Df false P w K mg base CX0 33 "_law_formula" s__law_formula ["bag", "names", "size", "more"] (S_formula 30)) (h__law_is_let : Df false P w K mg base CX0 175 "_law_is_let" s__law_is_let ["f"] S_let) (h__law_is_told : Df true P w K mg base CX0 228 "_law_is_told" s__law_is_told ["f", "is_named"] S_told) : Df true P w K mg base CX0 229 "law" s_law ["script"] S_law := by
  refine u_law.dfy sc_law (fun ds ω x k h => by obtain ⟨is, rfl, _⟩ := h; rfl) fun f_ cdv A out s_ H_ hG hr => ?_
  have nd := sc_law.nd
  refine ⟨_, _, (yss_cons (ys_set (i := 1) nd (ye_call h__law_bag gF (hr.mono (by omega)) passAll (ya_cons (yv 0) ya_nil)))
    (yss_cons (ys_for PassesOwn.never rfl (yi_r1 z_range (ya_cons yint ya_nil)) (yg_name (i := 2) nd) (yss_cons (ys_set (i := 3) nd (ye_call h__law_closed gF (hr.mono (by omega)) passAll (ya_cons (yv 1) (ya_cons (ye_call h__law_take gF (hr.mono (by omega)) passAll (ya_cons (yv 1) (ya_cons yint ya_nil))) (ya_cons (ye_call h__law_pick gF (hr.mono (by omega)) passAll (ya_cons (yv 1) (ya_cons (ye_lst (ya_cons yint (ya_cons yint (ya_cons yint (ya_cons yint ya_nil))))) ya_nil))) ya_nil)))))
    (yss_cons (ys_if (yt_cmp (yo_eq hr.units) (ye_bin yo_mod (yv 2) yint) yint) (yss_one (ys_set (i := 3) nd (ye_call h__law_formula gF (hr.mono (by omega)) passAll (ya_cons (yv 1) (ya_cons (ye_lst ya_nil) (ya_cons (ye_call h__law_pick gF (hr.mono (by omega)) passAll (ya_cons (yv 1) (ya_cons (ye_lst (ya_cons yint (ya_cons yint (ya_cons yint ya_nil)))) ya_nil))) (ya_cons yint ya_nil))))))) yss_nil)
    (yss_one (ys_for PassesOwn.never rfl (yi_seq (ye_tup (ya_cons (yv 3) (ya_cons (ye_tup (ya_cons ystr (ya_cons (yv 3) ya_nil))) (ya_cons (ye_tup (ya_cons ystr (ya_cons (yv 3) (ya_cons (ye_tup (ya_cons ystr (ya_cons ystr (ya_cons (ye_tup (ya_cons ystr (ya_cons ystr (ya_cons (ye_tup (ya_cons ystr (ya_cons ystr ya_nil))) ya_nil)))) ya_nil)))) ya_nil)))) ya_nil))))) (yg_name (i := 4) nd) (yss_one (ys_if (YW.yt (yw_and (yt_val (ye_call h__law_is_let gF (hr.mono (by omega)) passAll (ya_cons (yv 4) ya_nil))) (yw_and1 (yt_not (yt_val (ye_call h__law_is_told hG (hr.mono (by omega)) passAll (ya_cons (yv 4) (ya_cons (ye_cmp (yo_eq hr.units) (yv 2) yint) ya_nil)))))))) (yss_one (ys_ret ybl)) yss_nil)))))))
    (yss_cons (ys_asg (ye_tup (ya_cons (ye_tup (ya_cons ystr (ya_cons ystr ya_nil))) (ya_cons (ye_tup (ya_cons ystr (ya_cons ystr ya_nil))) ya_nil))) (yg_tup rfl (ygs_cons (yg_name (i := 5) nd) (ygs_cons (yg_name (i := 6) nd) ygs_nil))))
    (yss_cons (ys_set (i := 7) nd (ye_tup (ya_cons ystr (ya_cons ystr (ya_cons (ye_tup (ya_cons ystr (ya_cons (ye_tup (ya_cons (yv 5) (ya_cons (ye_tup (ya_cons ystr (ya_cons ystr (ya_cons (ye_tup (ya_cons ystr (ya_cons (ye_tup (ya_cons (yv 5) (ya_cons (ye_tup (ya_cons ystr (ya_cons (yv 5) ya_nil))) ya_nil))) ya_nil))) ya_nil)))) (ya_cons (yv 5) ya_nil)))) ya_nil))) ya_nil)))))
    (yss_cons (ys_set (i := 8) nd (ye_lst (ya_cons (yv 7) (ya_cons (ye_tup (ya_cons ystr (ya_cons (ye_tup (ya_cons ystr (ya_cons (yv 7) ya_nil))) ya_nil))) ya_nil))))
    (yss_cons (ys_expr (ye_append (yv 8) (ya_cons (ye_tup (ya_cons ystr (ya_cons ystr (ya_cons (ye_tup (ya_cons ystr (ya_cons ystr (ya_cons (ye_tup (ya_cons ystr (ya_cons (ye_tup (ya_cons ystr (ya_cons ystr ya_nil))) (ya_cons (ye_tup (ya_cons ystr (ya_cons ystr ya_nil))) ya_nil)))) ya_nil)))) ya_nil)))) ya_nil)))
    (yss_cons (ys_expr (ye_append (yv 8) (ya_cons (ye_tup (ya_cons ystr (ya_cons ystr (ya_cons (ye_tup (ya_cons ystr (ya_cons ystr (ya_cons (ye_tup (ya_cons ystr (ya_cons (ye_tup (ya_cons ystr (ya_cons ystr ya_nil))) (ya_cons (ye_tup (ya_cons ystr (ya_cons ystr ya_nil))) ya_nil)))) ya_nil)))) ya_nil)))) ya_nil)))
    (yss_cons (ys_expr (ye_append (yv 8) (ya_cons (ye_tup (ya_cons ystr (ya_cons ystr (ya_cons (ye_tup (ya_cons ystr (ya_cons (ye_tup (ya_cons ystr (ya_cons (yv 5) (ya_cons (ye_tup (ya_cons ystr (ya_cons (ye_tup ya_nil) ya_nil))) ya_nil)))) (ya_cons (ye_tup (ya_cons ystr (ya_cons ystr (ya_cons (ye_tup (ya_cons ystr (ya_cons (yv 5) (ya_cons (yv 6) ya_nil)))) ya_nil)))) ya_nil)))) ya_nil)))) ya_nil)))
    (yss_cons (ys_expr (ye_append (yv 8) (ya_cons (ye_tup (ya_cons ystr (ya_cons ystr (ya_cons (ye_tup (ya_cons ystr (ya_cons ystr (ya_cons (ye_tup (ya_cons ystr (ya_cons (ye_tup (ya_cons ystr (ya_cons ystr (ya_cons (ye_tup (ya_cons ystr (ya_cons (ye_tup (ya_cons (yv 5) (ya_cons (yv 6) (ya_cons (ye_tup (ya_cons ystr (ya_cons ystr ya_nil))) ya_nil)))) ya_nil))) ya_nil)))) ya_nil))) ya_nil)))) ya_nil)))) ya_nil)))
    (yss_one (ys_ret (ye_cmp (yo_eq hr.units) (ye_lc (own := [("own", 4)]) rfl nd (yi_seq (yv 8)) (blkOk_by (by kernel_rfl)) (og_name (by decide)) (fun _ _ _ _ _ => (yg_name (i := 4) nd)) (fun _ _ _ _ _ => (yts_one (yt_not (yt_val (ye_call h__law_is_told hG (hr.mono (by omega)) passAll (ya_cons (yv 4) (ya_cons ybl ya_nil))))))) (fun _ _ _ _ _ => yint)) (ye_lst ya_nil))))))))))))), fun ds ω x k h => ?_⟩
  obtain ⟨is, rfl, hl, q⟩ := h
  walk_at "go"
  refine ⟨is, rfl, hl, fun p g ω1 hb _ => ?_⟩
  walk_at "go"
  refine for_r1 8 (fun i ρ ω => ∃ (s2 s3 s4 : Option D), ρ = [some (.sq (is.map D.int)), some (.ptr p), s2, s3, s4, none, none, none, none] ∧ BagF p g ω) (by omega) (fun k0 h => by walk_at "go"; exact h) ⟨none, none, none, rfl, hb⟩ (fun i ρ ω2 hi ⟨s2, s3, s4, e, hb⟩ => ?_) fun ρ ω2 ⟨s2, s3, s4, e, hb⟩ => ?_
  · subst e
    walk_at "go"
    refine vTake hb (by omega) (by omega) fun r ω3 r1 r2 hb3 fr3 => ?_
    walk_at "go"
    refine vPick hb3 (by show 1 ≤ 4; omega) (by show 4 ≤ _; omega) fun e ω4 he hb4 fr4 => ?_
    obtain ⟨size, rfl, z1, z2⟩ := of_ints he (m := 15) (by decide +kernel)
    walk_at "go"
    refine ⟨p, g, r, size, rfl, hb4, by omega, by omega, by omega, by omega, fun f ω5 hf hb5 fr5 => ?_⟩
    walk_at "go"
    refine vMod (by decide) ?_
    walk_at "go"
    have inner : ∀ (f : Fm), CloG f → ∀ (ω0 : Store) (L : LEnds) (ρ : Rho) (s3 s4 : Option D), ρ = [some (.sq (is.map D.int)), some (.ptr p), some (.int (i : Int)), s3, s4, none, none, none, none] → (∀ s4 : Option D, L.nx [some (.sq (is.map D.int)), some (.ptr p), some (.int (i : Int)), s3, s4, none, none, none, none] ω0) →
        ForK (gdName 4) (dIfS (dAnd (dTest (dCB S_let (dCons (dVar 4) dNil))) (dNot (dTest (dCB S_told (dCons (dVar 4) (dCons (dOp sEq (dVar 2) (dC (.int 4))) dNil)))))) (dRet (dC (.bl false))) dNext) L ρ (.tup ((fOwn f).map Fm.enc)) ω0 := by
      intro f hf ω0 L ρ s3 s4 e nx
      subst e
      refine forK_inv ((fOwn f).map Fm.enc) (fun i2 ρ ω' => ω' = ω0 ∧ ∃ s4 : Option D, ρ = [some (.sq (is.map D.int)), some (.ptr p), some (.int (i : Int)), s3, s4, none, none, none, none]) (.inr (.inr rfl)) ⟨rfl, _, rfl⟩ (fun i2 d ρ ω' hd ⟨e2, s4, e⟩ => ?_) fun ρ ω' ⟨e2, s4, e⟩ => ?_
      · subst e e2
        rw [List.getElem?_map] at hd
        cases ho : (fOwn f)[i2]? with
        | none =>
          rw [ho] at hd
          cases hd
        | some o =>
          rw [ho] at hd
          cases hd
          obtain ⟨o1, o2, o3, o4⟩ := own_ok hf (List.mem_of_getElem? ho)
          have ow := wid_nodes o
          walk_at "go"
          refine ⟨o, rfl, by omega, by omega, ?_⟩
          walk_at "go"
          refine gI2 (fun c => ?_) fun c => ?_
          · walk_at "go"
            refine ⟨o, _, rfl, clo_of o1 o2 (by omega) (by omega) c, ?_⟩
            walk_at "go"
            exact ⟨rfl, _, rfl⟩
          · walk_at "go"
            exact ⟨rfl, _, rfl⟩
      · subst e e2
        exact nx _
    refine gI2 (fun c => ?_) fun c => ?_
    · walk_at "go"
      refine vPick hb5 (by show 1 ≤ 3; omega) (by show 3 ≤ _; omega) fun e ω6 he hb6 fr6 => ?_
      obtain ⟨size, rfl, z1, z2⟩ := of_ints he (m := 24) (by decide +kernel)
      walk_at "go"
      refine ⟨p, g, [], size, 4, rfl, hb6, by omega, by omega, by omega, by show (4 : Int) + ((0 : Nat) : Int) ≤ 1000; omega, (by intro s hs; cases hs), fun f ω7 gf hb7 fr7 => ?_⟩
      have f1 := gf.depth
      have f2 := gf.nodes
      walk_at "go"
      exact inner f ⟨gf.inn, gf.named, by omega, by omega⟩ _ _ _ _ _ rfl fun s4 => ⟨_, _, _, rfl, hb7⟩
    · walk_at "go"
      exact inner f hf _ _ _ _ _ rfl fun s4 => ⟨_, _, _, rfl, hb5⟩
  · subst e
    walk_at "gn"
    refine gLsP (by show 2 ≤ _; decide) fun r hr => ?_
    walk_at "go"
    refine ⟨⟨_, .ce sup_same⟩, ?_⟩
    walk_at "go"
    refine vAppend sup_same (by show 2 < _; omega) ?_
    rw [sup_sup]
    walk_at "go"
    refine ⟨⟨_, .ce sup_same⟩, ?_⟩
    walk_at "go"
    refine vAppend sup_same (by show 3 < _; omega) ?_
    rw [sup_sup]
    walk_at "go"
    refine ⟨⟨_, .ce sup_same⟩, ?_⟩
    walk_at "go"
    refine vAppend sup_same (by show 4 < _; omega) ?_
    rw [sup_sup]
    walk_at "go"
    refine ⟨⟨_, .ce sup_same⟩, ?_⟩
    walk_at "go"
    refine vAppend sup_same (by show 5 < _; omega) ?_
    rw [sup_sup]
    walk_at "go"
    refine lc_noneI fSome Fm.enc (fun k0 h => ?_) (fun a ha ω6 k1 h1 => ?_) ?_
    · refine gVar (a := .ptr r) rfl ⟨fSome.map Fm.enc, .inl ⟨.ce sup_same, h _ (SqOf.ce sup_same) fun c ds hc => SqOf.ce ?_⟩⟩
      have nc : r ≠ c := fun e => by rw [← e, sup_same] at hc; cases hc
      rw [sup_ne nc, sup_same]
      rfl
    · walk_at "go"
      refine ⟨a, false, rfl, clo_b (List.all_eq_true.mp fSome_clo a ha), ?_⟩
      walk_at "go"
      exact h1 _
    · walk_at "go"
      refine vEqNil (.lst .nil) (by simp [PyData.canLayAll0]) ?_
      walk_at "go"
      exact .of (q _)
end
end L3
namespace L3
open PySem L2 PySem.Spec PyProof.Rows
open PySem (PyData)
theorem top_mk {P : Program} {w : World} {K : PySem.W.Frag} {mg : Str → Option Value} {base h : Heap} (X : K.In h) (G : h.Ns mainGlobals mg) {f_law : Addr} {od_law an_law : Option Addr} {sl_law : Array (Option Value)} {oc_law kV_law dc_law pm_law cd_law ct_law : Value} {f__law_bag : Addr} {od__law_bag an__law_bag : Option Addr} {sl__law_bag : Array (Option Value)} {oc__law_bag kV__law_bag dc__law_bag pm__law_bag cd__law_bag ct__law_bag : Value} {f__law_closed : Addr} {od__law_closed an__law_closed : Option Addr} {sl__law_closed : Array (Option Value)} {oc__law_closed kV__law_closed dc__law_closed pm__law_closed cd__law_closed ct__law_closed : Value} {f__law_formula : Addr} {od__law_formula an__law_formula : Option Addr} {sl__law_formula : Array (Option Value)} {oc__law_formula kV__law_formula dc__law_formula pm__law_formula cd__law_formula ct__law_formula : Value} {f__law_take : Addr} {od__law_take an__law_take : Option Addr} {sl__law_take : Array (Option Value)} {oc__law_take kV__law_take dc__law_take pm__law_take cd__law_take ct__law_take : Value} {f__law_pick : Addr} {od__law_pick an__law_pick : Option Addr} {sl__law_pick : Array (Option Value)} {oc__law_pick kV__law_pick dc__law_pick pm__law_pick cd__law_pick ct__law_pick : Value} {f__law_is_let : Addr} {od__law_is_let an__law_is_let : Option Addr} {sl__law_is_let : Array (Option Value)} {oc__law_is_let kV__law_is_let dc__law_is_let pm__law_is_let cd__law_is_let ct__law_is_let : Value} {f__law_sizes : Addr} {od__law_sizes an__law_sizes : Option Addr} {sl__law_sizes : Array (Option Value)} {oc__law_sizes kV__law_sizes dc__law_sizes pm__law_sizes cd__law_sizes ct__law_sizes : Value} {f__law_has_each : Addr} {od__law_has_each an__law_has_each : Option Addr} {sl__law_has_each : Array (Option Value)} {oc__law_has_each kV__law_has_each dc__law_has_each pm__law_has_each cd__law_has_each ct__law_has_each : Value} {f__law_parts_of : Addr} {od__law_parts_of an__law_parts_of : Option Addr} {sl__law_parts_of : Array (Option Value)} {oc__law_parts_of kV__law_parts_of dc__law_parts_of pm__law_parts_of cd__law_parts_of ct__law_parts_of : Value} {f__law_is_told : Addr} {od__law_is_told an__law_is_told : Option Addr} {sl__law_is_told : Array (Option Value)} {oc__law_is_told kV__law_is_told dc__law_is_told pm__law_is_told cd__law_is_told ct__law_is_told : Value} {f_prenex : Addr} {od_prenex an_prenex : Option Addr} {sl_prenex : Array (Option Value)} {oc_prenex kV_prenex dc_prenex pm_prenex cd_prenex ct_prenex : Value} {f_pulled : Addr} {od_pulled an_pulled : Option Addr} {sl_pulled : Array (Option Value)} {oc_pulled kV_pulled dc_pulled pm_pulled cd_pulled ct_pulled : Value} {r_BINDERS : Addr} {od_BINDERS : Option Addr} {t_BINDERS_0 t_BINDERS_1 : Tok} {n_BINDERS : Nat} {sl_BINDERS : Array (Option Value)} {f_has_binder : Addr} {od_has_binder an_has_binder : Option Addr} {sl_has_binder : Array (Option Value)} {oc_has_binder kV_has_binder dc_has_binder pm_has_binder cd_has_binder ct_has_binder : Value} {f_parts_of : Addr} {od_parts_of an_parts_of : Option Addr} {sl_parts_of : Array (Option Value)} {oc_parts_of kV_parts_of dc_parts_of pm_parts_of cd_parts_of ct_parts_of : Value} {r_ROWS : Addr} {od_ROWS : Option Addr} {t_ROWS_0 t_ROWS_1 : Tok} {n_ROWS : Nat} {sl_ROWS : Array (Option Value)} {f_with_parts : Addr} {od_with_parts an_with_parts : Option Addr} {sl_with_parts : Array (Option Value)} {oc_with_parts kV_with_parts dc_with_parts pm_with_parts cd_with_parts ct_with_parts : Value} {f_spread_same : Addr} {od_spread_same an_spread_same : Option Addr} {sl_spread_same : Array (Option Value)} {oc_spread_same kV_spread_same dc_spread_same pm_spread_same cd_spread_same ct_spread_same : Value} {r_CONTRARY : Addr} {es_CONTRARY : Array DictEntry} {n_CONTRARY : Nat} {t_CONTRARY_0 : Tok} {t_CONTRARY_1 : Tok} {t_CONTRARY_2 : Tok} {t_CONTRARY_3 : Tok} {f_free_names : Addr} {od_free_names an_free_names : Option Addr} {sl_free_names : Array (Option Value)} {oc_free_names kV_free_names dc_free_names pm_free_names cd_free_names ct_free_names : Value} {f_free_in : Addr} {od_free_in an_free_in : Option Addr} {sl_free_in : Array (Option Value)} {oc_free_in kV_free_in dc_free_in pm_free_in cd_free_in ct_free_in : Value} {f_pulled_sizes : Addr} {od_pulled_sizes an_pulled_sizes : Option Addr} {sl_pulled_sizes : Array (Option Value)} {oc_pulled_sizes kV_pulled_sizes dc_pulled_sizes pm_pulled_sizes cd_pulled_sizes ct_pulled_sizes : Value} {t_MAX_LETTERS : Tok} {t_MAX_NODES : Tok} {t_MAX_NEST : Tok} {f__law_prenexed : Addr} {od__law_prenexed an__law_prenexed : Option Addr} {sl__law_prenexed : Array (Option Value)} {oc__law_prenexed kV__law_prenexed dc__law_prenexed pm__law_prenexed cd__law_prenexed ct__law_prenexed : Value} {f__law_put_ahead : Addr} {od__law_put_ahead an__law_put_ahead : Option Addr} {sl__law_put_ahead : Array (Option Value)} {oc__law_put_ahead kV__law_put_ahead dc__law_put_ahead pm__law_put_ahead cd__law_put_ahead ct__law_put_ahead : Value} {f__law_remade : Addr} {od__law_remade an__law_remade : Option Addr} {sl__law_remade : Array (Option Value)} {oc__law_remade kV__law_remade dc__law_remade pm__law_remade cd__law_remade ct__law_remade : Value}
    (a_law : PySem.W.nsIn K mainGlobals "law" = some (some (.ref f_law)))
    (l_law : K.lookup f_law = some ⟨oc_law, od_law, .func (PySem.W.fnOf "law" "law" (defArgs s_law) (defBody s_law) (defScope s_law) .none kV_law dc_law pm_law an_law cd_law ct_law), sl_law⟩)
    (k1_law : PySem.W.codeIn K cd_law "law" = true)
    (k2_law : PySem.W.keepIn K (.ref f_law) = true)
    (a__law_bag : PySem.W.nsIn K mainGlobals "_law_bag" = some (some (.ref f__law_bag)))
    (l__law_bag : K.lookup f__law_bag = some ⟨oc__law_bag, od__law_bag, .func (PySem.W.fnOf "_law_bag" "_law_bag" (defArgs s__law_bag) (defBody s__law_bag) (defScope s__law_bag) .none kV__law_bag dc__law_bag pm__law_bag an__law_bag cd__law_bag ct__law_bag), sl__law_bag⟩)
    (k1__law_bag : PySem.W.codeIn K cd__law_bag "_law_bag" = true)
    (k2__law_bag : PySem.W.keepIn K (.ref f__law_bag) = true)
    (z0_len : PySem.W.nsIn K mainGlobals "len" = some none)
    (z0_abs : PySem.W.nsIn K mainGlobals "abs" = some none)
    (z0_int : PySem.W.nsIn K mainGlobals "int" = some none)
    (z0_range : PySem.W.nsIn K mainGlobals "range" = some none)
    (a__law_closed : PySem.W.nsIn K mainGlobals "_law_closed" = some (some (.ref f__law_closed)))
    (l__law_closed : K.lookup f__law_closed = some ⟨oc__law_closed, od__law_closed, .func (PySem.W.fnOf "_law_closed" "_law_closed" (defArgs s__law_closed) (defBody s__law_closed) (defScope s__law_closed) .none kV__law_closed dc__law_closed pm__law_closed an__law_closed cd__law_closed ct__law_closed), sl__law_closed⟩)
    (k1__law_closed : PySem.W.codeIn K cd__law_closed "_law_closed" = true)
    (k2__law_closed : PySem.W.keepIn K (.ref f__law_closed) = true)
    (a__law_formula : PySem.W.nsIn K mainGlobals "_law_formula" = some (some (.ref f__law_formula)))
    (l__law_formula : K.lookup f__law_formula = some ⟨oc__law_formula, od__law_formula, .func (PySem.W.fnOf "_law_formula" "_law_formula" (defArgs s__law_formula) (defBody s__law_formula) (defScope s__law_formula) .none kV__law_formula dc__law_formula pm__law_formula an__law_formula cd__law_formula ct__law_formula), sl__law_formula⟩)
    (k1__law_formula : PySem.W.codeIn K cd__law_formula "_law_formula" = true)
    (k2__law_formula : PySem.W.keepIn K (.ref f__law_formula) = true)
    (a__law_take : PySem.W.nsIn K mainGlobals "_law_take" = some (some (.ref f__law_take)))
    (l__law_take : K.lookup f__law_take = some ⟨oc__law_take, od__law_take, .func (PySem.W.fnOf "_law_take" "_law_take" (defArgs s__law_take) (defBody s__law_take) (defScope s__law_take) .none kV__law_take dc__law_take pm__law_take an__law_take cd__law_take ct__law_take), sl__law_take⟩)
    (k1__law_take : PySem.W.codeIn K cd__law_take "_law_take" = true)
    (k2__law_take : PySem.W.keepIn K (.ref f__law_take) = true)
    (a__law_pick : PySem.W.nsIn K mainGlobals "_law_pick" = some (some (.ref f__law_pick)))
    (l__law_pick : K.lookup f__law_pick = some ⟨oc__law_pick, od__law_pick, .func (PySem.W.fnOf "_law_pick" "_law_pick" (defArgs s__law_pick) (defBody s__law_pick) (defScope s__law_pick) .none kV__law_pick dc__law_pick pm__law_pick an__law_pick cd__law_pick ct__law_pick), sl__law_pick⟩)
    (k1__law_pick : PySem.W.codeIn K cd__law_pick "_law_pick" = true)
    (k2__law_pick : PySem.W.keepIn K (.ref f__law_pick) = true)
    (z0_tuple : PySem.W.nsIn K mainGlobals "tuple" = some none)
    (z0_min : PySem.W.nsIn K mainGlobals "min" = some none)
    (a__law_is_let : PySem.W.nsIn K mainGlobals "_law_is_let" = some (some (.ref f__law_is_let)))
    (l__law_is_let : K.lookup f__law_is_let = some ⟨oc__law_is_let, od__law_is_let, .func (PySem.W.fnOf "_law_is_let" "_law_is_let" (defArgs s__law_is_let) (defBody s__law_is_let) (defScope s__law_is_let) .none kV__law_is_let dc__law_is_let pm__law_is_let an__law_is_let cd__law_is_let ct__law_is_let), sl__law_is_let⟩)
    (k1__law_is_let : PySem.W.codeIn K cd__law_is_let "_law_is_let" = true)
    (k2__law_is_let : PySem.W.keepIn K (.ref f__law_is_let) = true)
    (a__law_sizes : PySem.W.nsIn K mainGlobals "_law_sizes" = some (some (.ref f__law_sizes)))
    (l__law_sizes : K.lookup f__law_sizes = some ⟨oc__law_sizes, od__law_sizes, .func (PySem.W.fnOf "_law_sizes" "_law_sizes" (defArgs s__law_sizes) (defBody s__law_sizes) (defScope s__law_sizes) .none kV__law_sizes dc__law_sizes pm__law_sizes an__law_sizes cd__law_sizes ct__law_sizes), sl__law_sizes⟩)
    (k1__law_sizes : PySem.W.codeIn K cd__law_sizes "_law_sizes" = true)
    (k2__law_sizes : PySem.W.keepIn K (.ref f__law_sizes) = true)
    (a__law_has_each : PySem.W.nsIn K mainGlobals "_law_has_each" = some (some (.ref f__law_has_each)))
    (l__law_has_each : K.lookup f__law_has_each = some ⟨oc__law_has_each, od__law_has_each, .func (PySem.W.fnOf "_law_has_each" "_law_has_each" (defArgs s__law_has_each) (defBody s__law_has_each) (defScope s__law_has_each) .none kV__law_has_each dc__law_has_each pm__law_has_each an__law_has_each cd__law_has_each ct__law_has_each), sl__law_has_each⟩)
    (k1__law_has_each : PySem.W.codeIn K cd__law_has_each "_law_has_each" = true)
    (k2__law_has_each : PySem.W.keepIn K (.ref f__law_has_each) = true)
    (a__law_parts_of : PySem.W.nsIn K mainGlobals "_law_parts_of" = some (some (.ref f__law_parts_of)))
    (l__law_parts_of : K.lookup f__law_parts_of = some ⟨oc__law_parts_of, od__law_parts_of, .func (PySem.W.fnOf "_law_parts_of" "_law_parts_of" (defArgs s__law_parts_of) (defBody s__law_parts_of) (defScope s__law_parts_of) .none kV__law_parts_of dc__law_parts_of pm__law_parts_of an__law_parts_of cd__law_parts_of ct__law_parts_of), sl__law_parts_of⟩)
    (k1__law_parts_of : PySem.W.codeIn K cd__law_parts_of "_law_parts_of" = true)
    (k2__law_parts_of : PySem.W.keepIn K (.ref f__law_parts_of) = true)
    (z0_sum : PySem.W.nsIn K mainGlobals "sum" = some none)
    (z0_max : PySem.W.nsIn K mainGlobals "max" = some none)
    (a__law_is_told : PySem.W.nsIn K mainGlobals "_law_is_told" = some (some (.ref f__law_is_told)))
    (l__law_is_told : K.lookup f__law_is_told = some ⟨oc__law_is_told, od__law_is_told, .func (PySem.W.fnOf "_law_is_told" "_law_is_told" (defArgs s__law_is_told) (defBody s__law_is_told) (defScope s__law_is_told) .none kV__law_is_told dc__law_is_told pm__law_is_told an__law_is_told cd__law_is_told ct__law_is_told), sl__law_is_told⟩)
    (k1__law_is_told : PySem.W.codeIn K cd__law_is_told "_law_is_told" = true)
    (k2__law_is_told : PySem.W.keepIn K (.ref f__law_is_told) = true)
    (z0_repr : PySem.W.nsIn K mainGlobals "repr" = some none)
    (a_prenex : PySem.W.nsIn K mainGlobals "prenex" = some (some (.ref f_prenex)))
    (l_prenex : K.lookup f_prenex = some ⟨oc_prenex, od_prenex, .func (PySem.W.fnOf "prenex" "prenex" (defArgs s_prenex) (defBody s_prenex) (defScope s_prenex) .none kV_prenex dc_prenex pm_prenex an_prenex cd_prenex ct_prenex), sl_prenex⟩)
    (k1_prenex : PySem.W.codeIn K cd_prenex "prenex" = true)
    (k2_prenex : PySem.W.keepIn K (.ref f_prenex) = true)
    (z0_zip : PySem.W.nsIn K mainGlobals "zip" = some none)
    (a_pulled : PySem.W.nsIn K mainGlobals "pulled" = some (some (.ref f_pulled)))
    (l_pulled : K.lookup f_pulled = some ⟨oc_pulled, od_pulled, .func (PySem.W.fnOf "pulled" "pulled" (defArgs s_pulled) (defBody s_pulled) (defScope s_pulled) .none kV_pulled dc_pulled pm_pulled an_pulled cd_pulled ct_pulled), sl_pulled⟩)
    (k1_pulled : PySem.W.codeIn K cd_pulled "pulled" = true)
    (k2_pulled : PySem.W.keepIn K (.ref f_pulled) = true)
    (a_BINDERS : PySem.W.nsIn K mainGlobals "BINDERS" = some (some (.ref r_BINDERS)))
    (l_BINDERS : K.lookup r_BINDERS = some ⟨.type "tuple", od_BINDERS, .seq #[.str "each" t_BINDERS_0, .str "some" t_BINDERS_1] n_BINDERS, sl_BINDERS⟩)
    (a_has_binder : PySem.W.nsIn K mainGlobals "has_binder" = some (some (.ref f_has_binder)))
    (l_has_binder : K.lookup f_has_binder = some ⟨oc_has_binder, od_has_binder, .func (PySem.W.fnOf "has_binder" "has_binder" (defArgs s_has_binder) (defBody s_has_binder) (defScope s_has_binder) .none kV_has_binder dc_has_binder pm_has_binder an_has_binder cd_has_binder ct_has_binder), sl_has_binder⟩)
    (k1_has_binder : PySem.W.codeIn K cd_has_binder "has_binder" = true)
    (k2_has_binder : PySem.W.keepIn K (.ref f_has_binder) = true)
    (z0_any : PySem.W.nsIn K mainGlobals "any" = some none)
    (a_parts_of : PySem.W.nsIn K mainGlobals "parts_of" = some (some (.ref f_parts_of)))
    (l_parts_of : K.lookup f_parts_of = some ⟨oc_parts_of, od_parts_of, .func (PySem.W.fnOf "parts_of" "parts_of" (defArgs s_parts_of) (defBody s_parts_of) (defScope s_parts_of) .none kV_parts_of dc_parts_of pm_parts_of an_parts_of cd_parts_of ct_parts_of), sl_parts_of⟩)
    (k1_parts_of : PySem.W.codeIn K cd_parts_of "parts_of" = true)
    (k2_parts_of : PySem.W.keepIn K (.ref f_parts_of) = true)
    (a_ROWS : PySem.W.nsIn K mainGlobals "ROWS" = some (some (.ref r_ROWS)))
    (l_ROWS : K.lookup r_ROWS = some ⟨.type "tuple", od_ROWS, .seq #[.str "and" t_ROWS_0, .str "or" t_ROWS_1] n_ROWS, sl_ROWS⟩)
    (a_with_parts : PySem.W.nsIn K mainGlobals "with_parts" = some (some (.ref f_with_parts)))
    (l_with_parts : K.lookup f_with_parts = some ⟨oc_with_parts, od_with_parts, .func (PySem.W.fnOf "with_parts" "with_parts" (defArgs s_with_parts) (defBody s_with_parts) (defScope s_with_parts) .none kV_with_parts dc_with_parts pm_with_parts an_with_parts cd_with_parts ct_with_parts), sl_with_parts⟩)
    (k1_with_parts : PySem.W.codeIn K cd_with_parts "with_parts" = true)
    (k2_with_parts : PySem.W.keepIn K (.ref f_with_parts) = true)
    (z0_dict : PySem.W.nsIn K mainGlobals "dict" = some none)
    (a_spread_same : PySem.W.nsIn K mainGlobals "spread_same" = some (some (.ref f_spread_same)))
    (l_spread_same : K.lookup f_spread_same = some ⟨oc_spread_same, od_spread_same, .func (PySem.W.fnOf "spread_same" "spread_same" (defArgs s_spread_same) (defBody s_spread_same) (defScope s_spread_same) .none kV_spread_same dc_spread_same pm_spread_same an_spread_same cd_spread_same ct_spread_same), sl_spread_same⟩)
    (k1_spread_same : PySem.W.codeIn K cd_spread_same "spread_same" = true)
    (k2_spread_same : PySem.W.keepIn K (.ref f_spread_same) = true)
    (z0_str : PySem.W.nsIn K mainGlobals "str" = some none)
    (a_CONTRARY : PySem.W.nsIn K mainGlobals "CONTRARY" = some (some (.ref r_CONTRARY)))
    (l_CONTRARY : K.lookup r_CONTRARY = some ⟨.type "dict", none, .dict es_CONTRARY n_CONTRARY, #[]⟩)
    (hk_CONTRARY : PySem.W.KeysLit w.params es_CONTRARY.toList)
    (b_CONTRARY_0 : PySem.W.nsIn K r_CONTRARY "each" = some (some (.str "some" t_CONTRARY_0)))
    (b_CONTRARY_1 : PySem.W.nsIn K r_CONTRARY "some" = some (some (.str "each" t_CONTRARY_1)))
    (b_CONTRARY_2 : PySem.W.nsIn K r_CONTRARY "and" = some (some (.str "or" t_CONTRARY_2)))
    (b_CONTRARY_3 : PySem.W.nsIn K r_CONTRARY "or" = some (some (.str "and" t_CONTRARY_3)))
    (a_free_names : PySem.W.nsIn K mainGlobals "free_names" = some (some (.ref f_free_names)))
    (l_free_names : K.lookup f_free_names = some ⟨oc_free_names, od_free_names, .func (PySem.W.fnOf "free_names" "free_names" (defArgs s_free_names) (defBody s_free_names) (defScope s_free_names) .none kV_free_names dc_free_names pm_free_names an_free_names cd_free_names ct_free_names), sl_free_names⟩)
    (k1_free_names : PySem.W.codeIn K cd_free_names "free_names" = true)
    (k2_free_names : PySem.W.keepIn K (.ref f_free_names) = true)
    (z0_sorted : PySem.W.nsIn K mainGlobals "sorted" = some none)
    (z0_set : PySem.W.nsIn K mainGlobals "set" = some none)
    (a_free_in : PySem.W.nsIn K mainGlobals "free_in" = some (some (.ref f_free_in)))
    (l_free_in : K.lookup f_free_in = some ⟨oc_free_in, od_free_in, .func (PySem.W.fnOf "free_in" "free_in" (defArgs s_free_in) (defBody s_free_in) (defScope s_free_in) .none kV_free_in dc_free_in pm_free_in an_free_in cd_free_in ct_free_in), sl_free_in⟩)
    (k1_free_in : PySem.W.codeIn K cd_free_in "free_in" = true)
    (k2_free_in : PySem.W.keepIn K (.ref f_free_in) = true)
    (a_pulled_sizes : PySem.W.nsIn K mainGlobals "pulled_sizes" = some (some (.ref f_pulled_sizes)))
    (l_pulled_sizes : K.lookup f_pulled_sizes = some ⟨oc_pulled_sizes, od_pulled_sizes, .func (PySem.W.fnOf "pulled_sizes" "pulled_sizes" (defArgs s_pulled_sizes) (defBody s_pulled_sizes) (defScope s_pulled_sizes) .none kV_pulled_sizes dc_pulled_sizes pm_pulled_sizes an_pulled_sizes cd_pulled_sizes ct_pulled_sizes), sl_pulled_sizes⟩)
    (k1_pulled_sizes : PySem.W.codeIn K cd_pulled_sizes "pulled_sizes" = true)
    (k2_pulled_sizes : PySem.W.keepIn K (.ref f_pulled_sizes) = true)
    (a_MAX_LETTERS : PySem.W.nsIn K mainGlobals "MAX_LETTERS" = some (some (.int 60 t_MAX_LETTERS)))
    (a_MAX_NODES : PySem.W.nsIn K mainGlobals "MAX_NODES" = some (some (.int 400 t_MAX_NODES)))
    (a_MAX_NEST : PySem.W.nsIn K mainGlobals "MAX_NEST" = some (some (.int 40 t_MAX_NEST)))
    (a__law_prenexed : PySem.W.nsIn K mainGlobals "_law_prenexed" = some (some (.ref f__law_prenexed)))
    (l__law_prenexed : K.lookup f__law_prenexed = some ⟨oc__law_prenexed, od__law_prenexed, .func (PySem.W.fnOf "_law_prenexed" "_law_prenexed" (defArgs s__law_prenexed) (defBody s__law_prenexed) (defScope s__law_prenexed) .none kV__law_prenexed dc__law_prenexed pm__law_prenexed an__law_prenexed cd__law_prenexed ct__law_prenexed), sl__law_prenexed⟩)
    (k1__law_prenexed : PySem.W.codeIn K cd__law_prenexed "_law_prenexed" = true)
    (k2__law_prenexed : PySem.W.keepIn K (.ref f__law_prenexed) = true)
    (a__law_put_ahead : PySem.W.nsIn K mainGlobals "_law_put_ahead" = some (some (.ref f__law_put_ahead)))
    (l__law_put_ahead : K.lookup f__law_put_ahead = some ⟨oc__law_put_ahead, od__law_put_ahead, .func (PySem.W.fnOf "_law_put_ahead" "_law_put_ahead" (defArgs s__law_put_ahead) (defBody s__law_put_ahead) (defScope s__law_put_ahead) .none kV__law_put_ahead dc__law_put_ahead pm__law_put_ahead an__law_put_ahead cd__law_put_ahead ct__law_put_ahead), sl__law_put_ahead⟩)
    (k1__law_put_ahead : PySem.W.codeIn K cd__law_put_ahead "_law_put_ahead" = true)
    (k2__law_put_ahead : PySem.W.keepIn K (.ref f__law_put_ahead) = true)
    (a__law_remade : PySem.W.nsIn K mainGlobals "_law_remade" = some (some (.ref f__law_remade)))
    (l__law_remade : K.lookup f__law_remade = some ⟨oc__law_remade, od__law_remade, .func (PySem.W.fnOf "_law_remade" "_law_remade" (defArgs s__law_remade) (defBody s__law_remade) (defScope s__law_remade) .none kV__law_remade dc__law_remade pm__law_remade an__law_remade cd__law_remade ct__law_remade), sl__law_remade⟩)
    (k1__law_remade : PySem.W.codeIn K cd__law_remade "_law_remade" = true)
    (k2__law_remade : PySem.W.keepIn K (.ref f__law_remade) = true) : Df true P w K mg base CX0 229 "law" s_law ["script"] S_law := by
  have u_law : Tx K mg "law" s_law ["script"] := Tx.mk' X G a_law l_law k1_law k2_law fun _ _ _ _ _ _ us hl => match us, hl with | [_], _ => rfl
  have u__law_bag : Tx K mg "_law_bag" s__law_bag ["script"] := Tx.mk' X G a__law_bag l__law_bag k1__law_bag k2__law_bag fun _ _ _ _ _ _ us hl => match us, hl with | [_], _ => rfl
  have z_len := PySem.W.mg_none_of X G z0_len
  have z_abs := PySem.W.mg_none_of X G z0_abs
  have z_int := PySem.W.mg_none_of X G z0_int
  have z_range := PySem.W.mg_none_of X G z0_range
  have u__law_closed : Tx K mg "_law_closed" s__law_closed ["bag", "many", "size"] := Tx.mk' X G a__law_closed l__law_closed k1__law_closed k2__law_closed fun _ _ _ _ _ _ us hl => match us, hl with | [_, _, _], _ => rfl
  have u__law_formula : Tx K mg "_law_formula" s__law_formula ["bag", "names", "size", "more"] := Tx.mk' X G a__law_formula l__law_formula k1__law_formula k2__law_formula fun _ _ _ _ _ _ us hl => match us, hl with | [_, _, _, _], _ => rfl
  have u__law_take : Tx K mg "_law_take" s__law_take ["bag", "many"] := Tx.mk' X G a__law_take l__law_take k1__law_take k2__law_take fun _ _ _ _ _ _ us hl => match us, hl with | [_, _], _ => rfl
  have u__law_pick : Tx K mg "_law_pick" s__law_pick ["bag", "some"] := Tx.mk' X G a__law_pick l__law_pick k1__law_pick k2__law_pick fun _ _ _ _ _ _ us hl => match us, hl with | [_, _], _ => rfl
  have z_tuple := PySem.W.mg_none_of X G z0_tuple
  have z_min := PySem.W.mg_none_of X G z0_min
  have u__law_is_let : Tx K mg "_law_is_let" s__law_is_let ["f"] := Tx.mk' X G a__law_is_let l__law_is_let k1__law_is_let k2__law_is_let fun _ _ _ _ _ _ us hl => match us, hl with | [_], _ => rfl
  have u__law_sizes : Tx K mg "_law_sizes" s__law_sizes ["f"] := Tx.mk' X G a__law_sizes l__law_sizes k1__law_sizes k2__law_sizes fun _ _ _ _ _ _ us hl => match us, hl with | [_], _ => rfl
  have u__law_has_each : Tx K mg "_law_has_each" s__law_has_each ["f"] := Tx.mk' X G a__law_has_each l__law_has_each k1__law_has_each k2__law_has_each fun _ _ _ _ _ _ us hl => match us, hl with | [_], _ => rfl
  have u__law_parts_of : Tx K mg "_law_parts_of" s__law_parts_of ["f"] := Tx.mk' X G a__law_parts_of l__law_parts_of k1__law_parts_of k2__law_parts_of fun _ _ _ _ _ _ us hl => match us, hl with | [_], _ => rfl
  have z_sum := PySem.W.mg_none_of X G z0_sum
  have z_max := PySem.W.mg_none_of X G z0_max
  have u__law_is_told : Tx K mg "_law_is_told" s__law_is_told ["f", "is_named"] := Tx.mk' X G a__law_is_told l__law_is_told k1__law_is_told k2__law_is_told fun _ _ _ _ _ _ us hl => match us, hl with | [_, _], _ => rfl
  have z_repr := PySem.W.mg_none_of X G z0_repr
  have u_prenex : Tx K mg "prenex" s_prenex ["formula"] := Tx.mk' X G a_prenex l_prenex k1_prenex k2_prenex fun _ _ _ _ _ _ us hl => match us, hl with | [_], _ => rfl
  have z_zip := PySem.W.mg_none_of X G z0_zip
  have u_pulled : Tx K mg "pulled" s_pulled ["formula", "is_yes", "names", "quantifiers"] := Tx.mk' X G a_pulled l_pulled k1_pulled k2_pulled fun _ _ _ _ _ _ us hl => match us, hl with | [_, _, _, _], _ => rfl
  have c_BINDERS := cst_tup (vs := [.str "each", .str "some"]) (ds := [.str "each", .str "some"]) X G a_BINDERS l_BINDERS rfl rfl (by show 2 ≤ _; omega) (.cons ⟨_, rfl⟩ (.cons ⟨_, rfl⟩ .nil)) fun F => (.cons (.str _) (.cons (.str _) .nil))
  have u_has_binder : Tx K mg "has_binder" s_has_binder ["formula"] := Tx.mk' X G a_has_binder l_has_binder k1_has_binder k2_has_binder fun _ _ _ _ _ _ us hl => match us, hl with | [_], _ => rfl
  have z_any := PySem.W.mg_none_of X G z0_any
  have u_parts_of : Tx K mg "parts_of" s_parts_of ["formula"] := Tx.mk' X G a_parts_of l_parts_of k1_parts_of k2_parts_of fun _ _ _ _ _ _ us hl => match us, hl with | [_], _ => rfl
  have c_ROWS := cst_tup (vs := [.str "and", .str "or"]) (ds := [.str "and", .str "or"]) X G a_ROWS l_ROWS rfl rfl (by show 2 ≤ _; omega) (.cons ⟨_, rfl⟩ (.cons ⟨_, rfl⟩ .nil)) fun F => (.cons (.str _) (.cons (.str _) .nil))
  have u_with_parts : Tx K mg "with_parts" s_with_parts ["formula", "parts"] := Tx.mk' X G a_with_parts l_with_parts k1_with_parts k2_with_parts fun _ _ _ _ _ _ us hl => match us, hl with | [_, _], _ => rfl
  have z_dict := PySem.W.mg_none_of X G z0_dict
  have u_spread_same : Tx K mg "spread_same" s_spread_same ["formula"] := Tx.mk' X G a_spread_same l_spread_same k1_spread_same k2_spread_same fun _ _ _ _ _ _ us hl => match us, hl with | [_], _ => rfl
  have z_str := PySem.W.mg_none_of X G z0_str
  have c_CONTRARY := cst_ptr X G a_CONTRARY
  have kd_CONTRARY_each : KD K w r_CONTRARY "each" (.str "some") := kd_str l_CONTRARY hk_CONTRARY b_CONTRARY_0
  have kd_CONTRARY_some : KD K w r_CONTRARY "some" (.str "each") := kd_str l_CONTRARY hk_CONTRARY b_CONTRARY_1
  have kd_CONTRARY_and : KD K w r_CONTRARY "and" (.str "or") := kd_str l_CONTRARY hk_CONTRARY b_CONTRARY_2
  have kd_CONTRARY_or : KD K w r_CONTRARY "or" (.str "and") := kd_str l_CONTRARY hk_CONTRARY b_CONTRARY_3
  have u_free_names : Tx K mg "free_names" s_free_names ["formula"] := Tx.mk' X G a_free_names l_free_names k1_free_names k2_free_names fun _ _ _ _ _ _ us hl => match us, hl with | [_], _ => rfl
  have z_sorted := PySem.W.mg_none_of X G z0_sorted
  have z_set := PySem.W.mg_none_of X G z0_set
  have u_free_in : Tx K mg "free_in" s_free_in ["formula", "bound"] := Tx.mk' X G a_free_in l_free_in k1_free_in k2_free_in fun _ _ _ _ _ _ us hl => match us, hl with | [_, _], _ => rfl
  have u_pulled_sizes : Tx K mg "pulled_sizes" s_pulled_sizes ["formula"] := Tx.mk' X G a_pulled_sizes l_pulled_sizes k1_pulled_sizes k2_pulled_sizes fun _ _ _ _ _ _ us hl => match us, hl with | [_], _ => rfl
  have c_MAX_LETTERS := cst_int X G a_MAX_LETTERS
  have c_MAX_NODES := cst_int X G a_MAX_NODES
  have c_MAX_NEST := cst_int X G a_MAX_NEST
  have u__law_prenexed : Tx K mg "_law_prenexed" s__law_prenexed ["f"] := Tx.mk' X G a__law_prenexed l__law_prenexed k1__law_prenexed k2__law_prenexed fun _ _ _ _ _ _ us hl => match us, hl with | [_], _ => rfl
  have u__law_put_ahead : Tx K mg "_law_put_ahead" s__law_put_ahead ["f", "side", "names", "found"] := Tx.mk' X G a__law_put_ahead l__law_put_ahead k1__law_put_ahead k2__law_put_ahead fun _ _ _ _ _ _ us hl => match us, hl with | [_, _, _, _], _ => rfl
  have u__law_remade : Tx K mg "_law_remade" s__law_remade ["f", "parts"] := Tx.mk' X G a__law_remade l__law_remade k1__law_remade k2__law_remade fun _ _ _ _ _ _ us hl => match us, hl with | [_, _], _ => rfl
  have h_parts_of := ok_parts_of (P := P) (w := w) (base := base) u_parts_of c_ROWS c_BINDERS 
  have h_with_parts := ok_with_parts (P := P) (w := w) (base := base) u_with_parts c_ROWS c_BINDERS 
  have h_has_binder := ok_has_binder (P := P) (w := w) (base := base) u_has_binder c_BINDERS z_any h_parts_of 112
  have h_spread_same := ok_spread_same (P := P) (w := w) (base := base) u_spread_same 
  have h_free_in := ok_free_in (P := P) (w := w) (base := base) u_free_in h_parts_of c_BINDERS 112
  have h_free_names := ok_free_names (P := P) (w := w) (base := base) u_free_names z_tuple z_sorted z_set h_free_in 
  have h_pulled_sizes := ok_pulled_sizes (P := P) (w := w) (base := base) u_pulled_sizes c_BINDERS h_parts_of z_max 112
  have h_pulled := ok_pulled (P := P) (w := w) (base := base) u_pulled c_BINDERS h_has_binder h_with_parts z_dict h_spread_same z_tuple z_str c_CONTRARY z_len h_parts_of (fun b => by cases b; exact kd_CONTRARY_some; exact kd_CONTRARY_each) 112
  have h_prenex := ok_prenex (P := P) (w := w) (base := base) u_prenex z_zip h_pulled h_free_names h_pulled_sizes c_MAX_LETTERS c_MAX_NODES c_MAX_NEST z_tuple 
  have h__law_bag := ok__law_bag (P := P) (w := w) (base := base) u__law_bag z_len z_abs z_int 
  have h__law_take := ok__law_take (P := P) (w := w) (base := base) u__law_take z_int 
  have h__law_pick := ok__law_pick (P := P) (w := w) (base := base) u__law_pick h__law_take z_len 
  have h__law_parts_of := ok__law_parts_of (P := P) (w := w) (base := base) u__law_parts_of 
  have h__law_remade := ok__law_remade (P := P) (w := w) (base := base) u__law_remade z_len 
  have h__law_formula := ok__law_formula (P := P) (w := w) (base := base) u__law_formula h__law_take h__law_pick z_tuple z_range 30
  have h__law_has_each := ok__law_has_each (P := P) (w := w) (base := base) u__law_has_each h__law_parts_of 112
  have h__law_put_ahead := ok__law_put_ahead (P := P) (w := w) (base := base) u__law_put_ahead h__law_remade h__law_has_each z_tuple z_dict z_str h__law_parts_of z_len 112
  have h__law_prenexed := ok__law_prenexed (P := P) (w := w) (base := base) u__law_prenexed h__law_put_ahead z_tuple 
  have h__law_sizes := ok__law_sizes (P := P) (w := w) (base := base) u__law_sizes h__law_has_each z_sum h__law_parts_of z_range z_max 60 (Nat.le_refl _)
  have h__law_closed := ok__law_closed (P := P) (w := w) (base := base) u__law_closed h__law_formula h__law_take z_min h__law_pick 
  have h__law_is_told := ok__law_is_told (P := P) (w := w) (base := base) u__law_is_told z_repr h_prenex h__law_prenexed 
  have h__law_is_let := ok__law_is_let (P := P) (w := w) (base := base) u__law_is_let h__law_sizes 
  have h_law := ok_law (P := P) (w := w) (base := base) u_law h__law_bag z_range h__law_closed h__law_take h__law_pick h__law_formula h__law_is_let h__law_is_told 
  exact h_law
end L3
open PySem PySem.W PyProof.Rows
set_option maxRecDepth 100000 in
set_option maxHeartbeats 0 in
theorem PySem.Challenge.cw_eachsome_k67_whole_quantifiers_put_ahead_holds : PySem.Challenge.rw_eachsome_k67_whole_quantifiers_put_ahead.Holds := by
  w_on; o_law; k_head; (case hw => w_witness2)
  k_fill
  refine L3.walk_end (p := "script") (g := true) (k := 229) (st := L3.s_law) (l := PySem.Challenge.rw_eachsome_k67_whole_quantifiers_put_ahead) rfl rfl ⟨rfl, by decide, by decide⟩ (fun w h Y => PySem.W.kIn_of Y) ?F
  case F =>
    intro w mg h KX G base _ _
    refine' L3.top_mk KX G ?a_law ?l_law ?k1_law ?k2_law ?a__law_bag ?l__law_bag ?k1__law_bag ?k2__law_bag ?z0_len ?z0_abs ?z0_int ?z0_range ?a__law_closed ?l__law_closed ?k1__law_closed ?k2__law_closed ?a__law_formula ?l__law_formula ?k1__law_formula ?k2__law_formula ?a__law_take ?l__law_take ?k1__law_take ?k2__law_take ?a__law_pick ?l__law_pick ?k1__law_pick ?k2__law_pick ?z0_tuple ?z0_min ?a__law_is_let ?l__law_is_let ?k1__law_is_let ?k2__law_is_let ?a__law_sizes ?l__law_sizes ?k1__law_sizes ?k2__law_sizes ?a__law_has_each ?l__law_has_each ?k1__law_has_each ?k2__law_has_each ?a__law_parts_of ?l__law_parts_of ?k1__law_parts_of ?k2__law_parts_of ?z0_sum ?z0_max ?a__law_is_told ?l__law_is_told ?k1__law_is_told ?k2__law_is_told ?z0_repr ?a_prenex ?l_prenex ?k1_prenex ?k2_prenex ?z0_zip ?a_pulled ?l_pulled ?k1_pulled ?k2_pulled ?a_BINDERS ?l_BINDERS ?a_has_binder ?l_has_binder ?k1_has_binder ?k2_has_binder ?z0_any ?a_parts_of ?l_parts_of ?k1_parts_of ?k2_parts_of ?a_ROWS ?l_ROWS ?a_with_parts ?l_with_parts ?k1_with_parts ?k2_with_parts ?z0_dict ?a_spread_same ?l_spread_same ?k1_spread_same ?k2_spread_same ?z0_str ?a_CONTRARY ?l_CONTRARY ?hk_CONTRARY ?b_CONTRARY_0 ?b_CONTRARY_1 ?b_CONTRARY_2 ?b_CONTRARY_3 ?a_free_names ?l_free_names ?k1_free_names ?k2_free_names ?z0_sorted ?z0_set ?a_free_in ?l_free_in ?k1_free_in ?k2_free_in ?a_pulled_sizes ?l_pulled_sizes ?k1_pulled_sizes ?k2_pulled_sizes ?a_MAX_LETTERS ?a_MAX_NODES ?a_MAX_NEST ?a__law_prenexed ?l__law_prenexed ?k1__law_prenexed ?k2__law_prenexed ?a__law_put_ahead ?l__law_put_ahead ?k1__law_put_ahead ?k2__law_put_ahead ?a__law_remade ?l__law_remade ?k1__law_remade ?k2__law_remade
    (case a_law => k_is)
    (case l_law => k_is)
    (case k1_law => k_is)
    (case k2_law => k_is)
    (case a__law_bag => k_is)
    (case l__law_bag => k_is)
    (case k1__law_bag => k_is)
    (case k2__law_bag => k_is)
    (case z0_len => k_is)
    (case z0_abs => k_is)
    (case z0_int => k_is)
    (case z0_range => k_is)
    (case a__law_closed => k_is)
    (case l__law_closed => k_is)
    (case k1__law_closed => k_is)
    (case k2__law_closed => k_is)
    (case a__law_formula => k_is)
    (case l__law_formula => k_is)
    (case k1__law_formula => k_is)
    (case k2__law_formula => k_is)
    (case a__law_take => k_is)
    (case l__law_take => k_is)
    (case k1__law_take => k_is)
    (case k2__law_take => k_is)
    (case a__law_pick => k_is)
    (case l__law_pick => k_is)
    (case k1__law_pick => k_is)
    (case k2__law_pick => k_is)
    (case z0_tuple => k_is)
    (case z0_min => k_is)
    (case a__law_is_let => k_is)
    (case l__law_is_let => k_is)
    (case k1__law_is_let => k_is)
    (case k2__law_is_let => k_is)
    (case a__law_sizes => k_is)
    (case l__law_sizes => k_is)
    (case k1__law_sizes => k_is)
    (case k2__law_sizes => k_is)
    (case a__law_has_each => k_is)
    (case l__law_has_each => k_is)
    (case k1__law_has_each => k_is)
    (case k2__law_has_each => k_is)
    (case a__law_parts_of => k_is)
    (case l__law_parts_of => k_is)
    (case k1__law_parts_of => k_is)
    (case k2__law_parts_of => k_is)
    (case z0_sum => k_is)
    (case z0_max => k_is)
    (case a__law_is_told => k_is)
    (case l__law_is_told => k_is)
    (case k1__law_is_told => k_is)
    (case k2__law_is_told => k_is)
    (case z0_repr => k_is)
    (case a_prenex => k_is)
    (case l_prenex => k_is)
    (case k1_prenex => k_is)
    (case k2_prenex => k_is)
    (case z0_zip => k_is)
    (case a_pulled => k_is)
    (case l_pulled => k_is)
    (case k1_pulled => k_is)
    (case k2_pulled => k_is)
    (case a_BINDERS => k_is)
    (case l_BINDERS => k_is)
    (case a_has_binder => k_is)
    (case l_has_binder => k_is)
    (case k1_has_binder => k_is)
    (case k2_has_binder => k_is)
    (case z0_any => k_is)
    (case a_parts_of => k_is)
    (case l_parts_of => k_is)
    (case k1_parts_of => k_is)
    (case k2_parts_of => k_is)
    (case a_ROWS => k_is)
    (case l_ROWS => k_is)
    (case a_with_parts => k_is)
    (case l_with_parts => k_is)
    (case k1_with_parts => k_is)
    (case k2_with_parts => k_is)
    (case z0_dict => k_is)
    (case a_spread_same => k_is)
    (case l_spread_same => k_is)
    (case k1_spread_same => k_is)
    (case k2_spread_same => k_is)
    (case z0_str => k_is)
    (case a_CONTRARY => k_is)
    (case l_CONTRARY => k_is)
    (case hk_CONTRARY => exact ⟨⟨_, _, rfl, rfl⟩, ⟨⟨_, _, rfl, rfl⟩, ⟨⟨_, _, rfl, rfl⟩, ⟨⟨_, _, rfl, rfl⟩, trivial⟩⟩⟩⟩)
    (case b_CONTRARY_0 => k_is)
    (case b_CONTRARY_1 => k_is)
    (case b_CONTRARY_2 => k_is)
    (case b_CONTRARY_3 => k_is)
    (case a_free_names => k_is)
    (case l_free_names => k_is)
    (case k1_free_names => k_is)
    (case k2_free_names => k_is)
    (case z0_sorted => k_is)
    (case z0_set => k_is)
    (case a_free_in => k_is)
    (case l_free_in => k_is)
    (case k1_free_in => k_is)
    (case k2_free_in => k_is)
    (case a_pulled_sizes => k_is)
    (case l_pulled_sizes => k_is)
    (case k1_pulled_sizes => k_is)
    (case k2_pulled_sizes => k_is)
    (case a_MAX_LETTERS => k_is)
    (case a_MAX_NODES => k_is)
    (case a_MAX_NEST => k_is)
    (case a__law_prenexed => k_is)
    (case l__law_prenexed => k_is)
    (case k1__law_prenexed => k_is)
    (case k2__law_prenexed => k_is)
    (case a__law_put_ahead => k_is)
    (case l__law_put_ahead => k_is)
    (case k1__law_put_ahead => k_is)
    (case k2__law_put_ahead => k_is)
    (case a__law_remade => k_is)
    (case l__law_remade => k_is)
    (case k1__law_remade => k_is)
    (case k2__law_remade => k_is)
