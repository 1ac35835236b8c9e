import PyProof.Rows.All
import Wide.All
import OpenK.AllK
import Wide.FinOn
import HandS.ForMost
import KE.KeyNested
import HandS.ForExc
import HandS.Lambda
import HandS.Conv
import HandS.Deep
import HandS.TupAny
import HandS.Style
import HandS.Small
import HandS.Flow
import HandS.Codes
import HandS.Dict
import HandS.SortInts
import HandS.SetFor
import HandS.Strs
import HandS.Text
import HandS.Replace
import HandS.GenList
import HandS.AnyAll
import PyProof.TupleOfGen
import PyProof.CollectWalk
import PyProof.SumAny
import PyProof.ConsumeWalk
import HandS.Zip
import HandS.Iter
import HandS.DictComp
import HandS.WordsDict
import KE.DataMinMax
import KE.DatumOrd
import HandS.Words
import HandS.WordsExc
import HandS.Defaults
import HandS.Head0
import HandS.Head1
import HandS.Head2
import HandS.HeadHook1
import HandS.HeadHook2
import HandS.HeadHook3
import HandS.HeadHook4
import HandS.HeadWalk
import HandS.EndTab
import KE.GoesEnum
import KE.GoesZip
import HandS.Remove
import HandS.IterVal
import HandS.More
import PyProof.StrOps2
import KE.KDictSum
import HandS.Keys
import KE.SortKeyHeap
import HandS.SortKw
import HandS.TupLen
import KE.GoesRaise
import PyProof.DictRoadsH
import HandS.TryOnly
import PyProof.ListStr
import HandS.TupSets
import KE.KStateDown
import PySem.Challenge.RW_shufflestack_k03_tricks_that_find_a_card
set_option Elab.async false
set_option linter.all false
set_option maxRecDepth 100000
set_option maxHeartbeats 1000000
set_option autoImplicit false
/-! ShA: abstract data over the layer HandS: what a value stands for (Rp) in a heap that is frozen (G), what is owned (W), how one state follows on another (Step). -/
namespace Sh
open PySem PySem.Spec PyProof.Rows L2

/-- data -/
inductive D where
  | non | bl (b : Bool) | int (i : Int) | str (x : Str) | tup (l : List D) | lst (l : List D) | dct (l : List (Key × D)) | ptr (a : Addr) | pr (l : List D)

/-- a tuple to be read whose object has no dict of its own -/
def TupK (K : PySem.W.Frag) (G : Hp) (a : Addr) (vs : List V) : Prop :=
  (∃ o : Obj, G a = some (.frz o (.tup vs)) ∧ o.cls = .type "tuple" ∧ o.dict = none) ∨
    ∃ (o : Obj) (its : Array Value) (n : Nat), K.lookup a = some o ∧ o.cls = .type "tuple" ∧ o.dict = none ∧ o.data = .seq its n ∧ its.size ≤ sizeLine ∧ Vals vs its.toList
theorem TupK.sq {K : PySem.W.Frag} {G : Hp} {a : Addr} {vs : List V} (h : TupK K G a vs) : SqT K G a vs := by
  rcases h with ⟨o, e, _, _⟩ | ⟨o, its, n, h1, h2, _, h4, h5, h6⟩
  · exact .inl (.inr ⟨o, e⟩)
  · exact .inr ⟨o, its, n, h1, h2, h4, h5, h6⟩
theorem TupK.mono {K : PySem.W.Frag} {G G' : Hp} {a : Addr} {vs : List V} (e : ∀ a o, G a = some o → G' a = some o) (h : TupK K G a vs) : TupK K G' a vs := by
  rcases h with ⟨o, q, r⟩ | h
  · exact .inl ⟨o, e _ _ q, r⟩
  · exact .inr h
/-- v stands for d, the objects read in G -/
inductive Rp (K : PySem.W.Frag) (G : Hp) : V → D → Prop
  | non : Rp K G .non .non
  | bl (b : Bool) : Rp K G (.bl b) (.bl b)
  | int (i : Int) : Rp K G (.int i) (.int i)
  | str (x : Str) : Rp K G (.str x) (.str x)
  | ptr (a : Addr) : Rp K G (.ref a) (.ptr a)
  | tup {a : Addr} {vs : List V} {ds : List D} : TupK K G a vs → vs.length = ds.length → (∀ (i : Nat) (v : V) (d : D), vs[i]? = some v → ds[i]? = some d → Rp K G v d) → Rp K G (.ref a) (.tup ds)
  | lst {a : Addr} {vs : List V} {ds : List D} : G a = some (.lst vs) → vs.length = ds.length → (∀ (i : Nat) (v : V) (d : D), vs[i]? = some v → ds[i]? = some d → Rp K G v d) → Rp K G (.ref a) (.lst ds)
  | dct {a : Addr} {o : Obj} {kvs : List (Key × V)} {ds : List (Key × D)} : G a = some (.frz o (.dK kvs)) → kvs.map (·.1) = ds.map (·.1) → (∀ (i : Nat) (v : V) (d : D), (kvs.map (·.2))[i]? = some v → (ds.map (·.2))[i]? = some d → Rp K G v d) → Rp K G (.ref a) (.dct ds)

/-- item by item -/
def Rps (K : PySem.W.Frag) (G : Hp) (vs : List V) (ds : List D) : Prop := vs.length = ds.length ∧ ∀ (i : Nat) (v : V) (d : D), vs[i]? = some v → ds[i]? = some d → Rp K G v d

/-- what is frozen has grown -/
def Le (G G' : Hp) : Prop := ∀ a o, G a = some o → G' a = some o
theorem Le.refl (G : Hp) : Le G G := fun _ _ h => h
theorem Le.trans {G G1 G2 : Hp} (a : Le G G1) (b : Le G1 G2) : Le G G2 := fun x o h => b x o (a x o h)
theorem Le.rd {G G' : Hp} {a : Addr} {u : HO} (e : Le G G') (h : Rd G a u) : Rd G' a u := by
  rcases h with h | ⟨o, h⟩
  · exact Or.inl (e a _ h)
  · exact Or.inr ⟨o, e a _ h⟩
theorem Le.sl {K : PySem.W.Frag} {G G' : Hp} {a : Addr} {xs : List V} (e : Le G G') (h : SqL K G a xs) : SqL K G' a xs := by
  rcases h with h | h
  · exact Or.inl (e.rd h)
  · exact Or.inr h
theorem Le.st {K : PySem.W.Frag} {G G' : Hp} {a : Addr} {xs : List V} (e : Le G G') (h : SqT K G a xs) : SqT K G' a xs := by
  rcases h with h | h
  · exact Or.inl (e.rd h)
  · exact Or.inr h
theorem Rp.mono {K : PySem.W.Frag} {G G' : Hp} (e : Le G G') {v : V} {d : D} (h : Rp K G v d) : Rp K G' v d := by
  induction h with
  | non => exact .non
  | bl b => exact .bl b
  | int i => exact .int i
  | str x => exact .str x
  | ptr a => exact .ptr a
  | tup h1 h2 _ ih => exact .tup (h1.mono e) h2 ih
  | lst h1 h2 _ ih => exact .lst (e _ _ h1) h2 ih
  | dct h1 h2 _ ih => exact .dct (e _ _ h1) h2 ih
theorem Rps.mono {K : PySem.W.Frag} {G G' : Hp} (e : Le G G') {vs : List V} {ds : List D} (h : Rps K G vs ds) : Rps K G' vs ds := ⟨h.1, fun i v d a b => (h.2 i v d a b).mono e⟩

section
variable {K : PySem.W.Frag} {G : Hp}
theorem Rps.nil : Rps K G [] [] := ⟨rfl, fun i v d a _ => by simp at a⟩
theorem Rps.cons {v : V} {d : D} {vs : List V} {ds : List D} (h : Rp K G v d) (t : Rps K G vs ds) : Rps K G (v :: vs) (d :: ds) := by
  refine ⟨by rw [List.length_cons, List.length_cons, t.1], fun i w e a b => ?_⟩
  cases i with
  | zero =>
    rw [List.getElem?_cons_zero] at a b
    cases a
    cases b
    exact h
  | succ i =>
    rw [List.getElem?_cons_succ] at a b
    exact t.2 i w e a b
theorem Rps.head {v : V} {d : D} {vs : List V} {ds : List D} (h : Rps K G (v :: vs) (d :: ds)) : Rp K G v d := h.2 0 v d rfl rfl
theorem Rps.tail {v : V} {d : D} {vs : List V} {ds : List D} (h : Rps K G (v :: vs) (d :: ds)) : Rps K G vs ds :=
  ⟨by have := h.1; rw [List.length_cons, List.length_cons] at this; omega, fun i w e a b => h.2 (i + 1) w e (by rw [List.getElem?_cons_succ]; exact a) (by rw [List.getElem?_cons_succ]; exact b)⟩
theorem Rps.inv {vs : List V} {d : D} {ds : List D} (h : Rps K G vs (d :: ds)) : ∃ v vs', vs = v :: vs' ∧ Rp K G v d ∧ Rps K G vs' ds := by
  cases vs with
  | nil => have := h.1; simp at this
  | cons v vs => exact ⟨v, vs, rfl, h.head, h.tail⟩
theorem Rps.inv0 {vs : List V} (h : Rps K G vs []) : vs = [] := by
  cases vs with
  | nil => rfl
  | cons v vs => have := h.1; simp at this
theorem Rps.append {vs ws : List V} {ds es : List D} (h : Rps K G vs ds) (t : Rps K G ws es) : Rps K G (vs ++ ws) (ds ++ es) := by
  induction ds generalizing vs with
  | nil =>
    rw [h.inv0]
    exact t
  | cons d ds ih =>
    obtain ⟨v, vs', rfl, h1, h2⟩ := h.inv
    exact (ih h2).cons h1
theorem Rps.snoc {vs : List V} {ds : List D} {v : V} {d : D} (h : Rps K G vs ds) (t : Rp K G v d) : Rps K G (vs ++ [v]) (ds ++ [d]) := h.append (Rps.nil.cons t)
theorem Rps.take {vs : List V} {ds : List D} (h : Rps K G vs ds) (n : Nat) : Rps K G (vs.take n) (ds.take n) := by
  refine ⟨by rw [List.length_take, List.length_take, h.1], fun i v d a b => ?_⟩
  rw [List.getElem?_take] at a b
  split at a
  · rename_i hi
    rw [if_pos hi] at b
    exact h.2 i v d a b
  · cases a
theorem Rps.drop {vs : List V} {ds : List D} (h : Rps K G vs ds) (n : Nat) : Rps K G (vs.drop n) (ds.drop n) := by
  refine ⟨by rw [List.length_drop, List.length_drop, h.1], fun i v d a b => ?_⟩
  rw [List.getElem?_drop] at a b
  exact h.2 _ v d a b
theorem Rps.reverse {vs : List V} {ds : List D} (h : Rps K G vs ds) : Rps K G vs.reverse ds.reverse := by
  induction ds generalizing vs with
  | nil =>
    rw [h.inv0]
    exact .nil
  | cons d ds ih =>
    obtain ⟨v, vs', rfl, h1, h2⟩ := h.inv
    rw [List.reverse_cons, List.reverse_cons]
    exact (ih h2).snoc h1
theorem Rps.get {vs : List V} {ds : List D} (h : Rps K G vs ds) {i : Nat} {d : D} (e : ds[i]? = some d) : ∃ v, vs[i]? = some v ∧ Rp K G v d := by
  have hi : i < vs.length := by
    rw [h.1]
    exact (List.getElem?_eq_some_iff.mp e).1
  exact ⟨vs[i], List.getElem?_eq_getElem hi, h.2 i _ d (List.getElem?_eq_getElem hi) e⟩
theorem Rps.getV {vs : List V} {ds : List D} (h : Rps K G vs ds) {i : Nat} {v : V} (e : vs[i]? = some v) : ∃ d, ds[i]? = some d ∧ Rp K G v d := by
  have hi : i < ds.length := by
    rw [← h.1]
    exact (List.getElem?_eq_some_iff.mp e).1
  exact ⟨ds[i], List.getElem?_eq_getElem hi, h.2 i v _ e (List.getElem?_eq_getElem hi)⟩
theorem Rps.set {vs : List V} {ds : List D} (h : Rps K G vs ds) (j : Nat) {v : V} {d : D} (r : Rp K G v d) : Rps K G (vs.set j v) (ds.set j d) := by
  refine ⟨by rw [List.length_set, List.length_set, h.1], fun i w e a b => ?_⟩
  by_cases hj : j = i
  · subst hj
    have hl : j < vs.length := by
      have := (List.getElem?_eq_some_iff.mp a).1
      rw [List.length_set] at this
      exact this
    rw [List.getElem?_set_self hl] at a
    rw [List.getElem?_set_self (by rw [← h.1]; exact hl)] at b
    cases a
    cases b
    exact r
  · rw [List.getElem?_set_ne hj] at a b
    exact h.2 i w e a b
theorem Rps.replicate (n : Nat) {v : V} {d : D} (r : Rp K G v d) : Rps K G (List.replicate n v) (List.replicate n d) := by
  induction n with
  | zero => exact .nil
  | succ n ih => exact ih.cons r
/-- the values of plain data are known -/
theorem Rp.int_inv {v : V} {i : Int} (h : Rp K G v (.int i)) : v = .int i := by cases h; rfl
theorem Rp.bl_inv {v : V} {b : Bool} (h : Rp K G v (.bl b)) : v = .bl b := by cases h; rfl
theorem Rp.str_inv {v : V} {x : Str} (h : Rp K G v (.str x)) : v = .str x := by cases h; rfl
theorem Rp.non_inv {v : V} (h : Rp K G v .non) : v = .non := by cases h; rfl
theorem Rp.ptr_inv {v : V} {a : Addr} (h : Rp K G v (.ptr a)) : v = .ref a := by cases h; rfl
theorem Rp.tup_inv {v : V} {ds : List D} (h : Rp K G v (.tup ds)) : ∃ a vs, v = .ref a ∧ TupK K G a vs ∧ Rps K G vs ds := by
  cases h with
  | tup h1 h2 h3 => exact ⟨_, _, rfl, h1, h2, h3⟩
theorem Rp.lst_inv {v : V} {ds : List D} (h : Rp K G v (.lst ds)) : ∃ a vs, v = .ref a ∧ G a = some (.lst vs) ∧ Rps K G vs ds := by
  cases h with
  | lst h1 h2 h3 => exact ⟨_, _, rfl, h1, h2, h3⟩
theorem Rp.tup_mk {a : Addr} {vs : List V} {ds : List D} (h1 : TupK K G a vs) (h2 : Rps K G vs ds) : Rp K G (.ref a) (.tup ds) := .tup h1 h2.1 h2.2
theorem Rp.lst_mk {a : Addr} {vs : List V} {ds : List D} (h1 : G a = some (.lst vs)) (h2 : Rps K G vs ds) : Rp K G (.ref a) (.lst ds) := .lst h1 h2.1 h2.2
theorem Rps.ints : ∀ {vs : List V} {ns : List Int}, Rps K G vs (ns.map .int) → vs = ns.map .int
  | vs, [], h => h.inv0
  | vs, n :: ns, h => by
    obtain ⟨v, vs', rfl, h1, h2⟩ := h.inv
    rw [h1.int_inv, Rps.ints h2]
    rfl
theorem Rps.strs : ∀ {vs : List V} {ns : List Str}, Rps K G vs (ns.map .str) → vs = ns.map .str
  | vs, [], h => h.inv0
  | vs, n :: ns, h => by
    obtain ⟨v, vs', rfl, h1, h2⟩ := h.inv
    rw [h1.str_inv, Rps.strs h2]
    rfl
theorem Rps.bls : ∀ {vs : List V} {ns : List Bool}, Rps K G vs (ns.map .bl) → vs = ns.map .bl
  | vs, [], h => h.inv0
  | vs, n :: ns, h => by
    obtain ⟨v, vs', rfl, h1, h2⟩ := h.inv
    rw [h1.bl_inv, Rps.bls h2]
    rfl
theorem Rps.of_ints : ∀ (ns : List Int), Rps K G (ns.map .int) (ns.map .int)
  | [] => .nil
  | n :: ns => (Rps.of_ints ns).cons (.int n)
theorem Rps.of_strs : ∀ (ns : List Str), Rps K G (ns.map .str) (ns.map .str)
  | [] => .nil
  | n :: ns => (Rps.of_strs ns).cons (.str n)
theorem Rps.of_bls : ∀ (ns : List Bool), Rps K G (ns.map .bl) (ns.map .bl)
  | [] => .nil
  | n :: ns => (Rps.of_bls ns).cons (.bl n)
end

/-! ### what is owned -/
/-- an owned object's content -/
inductive AO where
  | lst (l : List D) | dK (l : List (Key × D)) | ins (C dx : Addr) (fs : List (Str × D)) | raw (o : HO)
  /-- a lambda's object, its code at c -/
  | lam (o : HO) (c : Addr) (q : Str)
  /-- a dict with keys that may be nested tuples: what is true of its object, its entries -/
  | dN (φ : Heap → Prop) (xs : List (NestedKey × Addr × Value))
mutual
/-- a key as data -/
def keyD : NestedKey → D
  | .none => .non
  | .num i => .int i
  | .text x => .str x
  | .tup ks => .tup (keyDs ks)
def keyDs : List NestedKey → List D
  | [] => []
  | k :: ks => keyD k :: keyDs ks
end
/-- pairs with plain first parts -/
def Rpk {κ : Type} (K : PySem.W.Frag) (G : Hp) (kvs : List (κ × V)) (ds : List (κ × D)) : Prop := kvs.map (·.1) = ds.map (·.1) ∧ Rps K G (kvs.map (·.2)) (ds.map (·.2))
def RO (K : PySem.W.Frag) (G : Hp) : HO → AO → Prop
  | .lst vs, .lst ds => Rps K G vs ds
  | .dK kvs, .dK ds => Rpk K G kvs ds
  | .ins C dx fs, .ins C' dx' ds => C = C' ∧ dx = dx' ∧ Rpk K G fs ds
  | o, .raw o' => o = o' ∧ ∀ ps, o ≠ .tbl ps
  | o, .lam o' c q => o = o' ∧ (∀ ps, o ≠ .tbl ps) ∧ G c = some (LamX.CodeO c q)
  | o, .dN φ xs => o = .ext φ ∧ ∀ x ∈ xs, Rp K G (.ref x.2.1) (keyD x.1)
  | _, _ => False
abbrev OW := List (Addr × AO)
theorem Rpk.mono {κ : Type} {K : PySem.W.Frag} {G G' : Hp} (e : Le G G') {kvs : List (κ × V)} {ds : List (κ × D)} (h : Rpk K G kvs ds) : Rpk K G' kvs ds := ⟨h.1, h.2.mono e⟩
theorem RO.mono {K : PySem.W.Frag} {G G' : Hp} (e : Le G G') {o : HO} {w : AO} (h : RO K G o w) : RO K G' o w := by
  unfold RO at h ⊢
  split at h
  · exact Rps.mono e h
  · exact Rpk.mono e h
  · exact ⟨h.1, h.2.1, h.2.2.mono e⟩
  · exact h
  · exact ⟨h.1, h.2.1, e _ _ h.2.2⟩
  · exact ⟨h.1, fun x hx => (h.2 x hx).mono e⟩
  · exact h.elim
theorem RO.ntb {K : PySem.W.Frag} {G : Hp} {o : HO} {w : AO} (h : RO K G o w) (ps : Array Value) : o ≠ .tbl ps := by
  intro e
  subst e
  cases w with
  | lst _ => exact h.elim
  | dK _ => exact h.elim
  | ins _ _ _ => exact h.elim
  | raw _ => exact h.2 ps rfl
  | lam _ _ _ => exact h.2.1 ps rfl
  | dN _ _ => cases h.1
theorem RO.lst_inv {K : PySem.W.Frag} {G : Hp} {o : HO} {ds : List D} (h : RO K G o (.lst ds)) : ∃ vs, o = .lst vs ∧ Rps K G vs ds := by
  cases o with
  | lst vs => exact ⟨vs, rfl, h⟩
  | _ => exact h.elim
theorem RO.dK_inv {K : PySem.W.Frag} {G : Hp} {o : HO} {ds : List (Key × D)} (h : RO K G o (.dK ds)) : ∃ vs, o = .dK vs ∧ Rpk K G vs ds := by
  cases o with
  | dK vs => exact ⟨vs, rfl, h⟩
  | _ => exact h.elim
theorem RO.ins_inv {K : PySem.W.Frag} {G : Hp} {o : HO} {C dx : Addr} {ds : List (Str × D)} (h : RO K G o (.ins C dx ds)) : ∃ fs, o = .ins C dx fs ∧ Rpk K G fs ds := by
  cases o with
  | ins C' dx' fs =>
    obtain ⟨rfl, rfl, h⟩ := h
    exact ⟨fs, rfl, h⟩
  | _ => exact h.elim
theorem RO.raw_inv {K : PySem.W.Frag} {G : Hp} {o o' : HO} (h : RO K G o (.raw o')) : o = o' := by
  cases o <;> exact h.1

theorem RO.dN_inv {K : PySem.W.Frag} {G : Hp} {o : HO} {φ : Heap → Prop} {xs : List (NestedKey × Addr × Value)} (h : RO K G o (.dN φ xs)) : o = .ext φ ∧ ∀ x ∈ xs, Rp K G (.ref x.2.1) (keyD x.1) := by
  cases o <;> exact h
theorem RO.lam_inv {K : PySem.W.Frag} {G : Hp} {o o' : HO} {c : Addr} {q : Str} (h : RO K G o (.lam o' c q)) : o = o' ∧ G c = some (LamX.CodeO c q) := by
  cases o <;> exact ⟨h.1, h.2.2⟩

/-! ### tables of code objects: of the defs with generator expressions (their addresses), of those with lambdas (and the name) -/
def TabG (H : Hp) (P : Addr) : Prop := ∃ ps : Array Value, H P = some (.tbl ps) ∧ TriplesOk ps.toList
structure Tb where
  g : List Addr
  l : List (Addr × Str)
/-- the code objects in the tables are known for good -/
def Codes (l : List (Addr × Str)) (G H : Hp) : Prop := ∀ p ∈ l, ∀ ps : Array Value, H p.1 = some (.tbl ps) → ∀ (pos : Pos) (cv : Value), codeAmong pos ps.toList = some cv → ∃ c, cv = .ref c ∧ G c = some (LamX.CodeO c p.2)
def Tb.Ok (T : Tb) (G H : Hp) : Prop := (∀ P ∈ T.g, TabG H P) ∧ LamX.Tabs T.l H ∧ Codes T.l G H
theorem Tb.Ok.mono {T : Tb} {G G' H : Hp} (t : T.Ok G H) (le : ∀ b o, G b = some o → G' b = some o) : T.Ok G' H := ⟨t.1, t.2.1, fun p hp ps e pos cv hc => by
  obtain ⟨c, e1, e2⟩ := t.2.2 p hp ps e pos cv hc
  exact ⟨c, e1, le _ _ e2⟩⟩

/-- the abstract heap: G frozen, W owned, the tables -/
structure Hk (K : PySem.W.Frag) (T : Tb) (G : Hp) (W : OW) (H : Hp) : Prop where
  sub : Le G H
  ntb : ∀ a ps, G a ≠ some (.tbl ps)
  nod : (W.map (·.1)).Nodup
  own : ∀ p ∈ W, G p.1 = none ∧ ∃ o, H p.1 = some o ∧ RO K G o p.2
  tab : T.Ok G H

/-- from (G, W, H) to (G', W', H') -/
structure Step (K : PySem.W.Frag) (T : Tb) (G : Hp) (W : OW) (H : Hp) (G' : Hp) (W' : OW) (H' : Hp) : Prop where
  le : Le G G'
  fr : ∀ a o, G' a = some o → G a = some o ∨ H a = none ∨ a ∈ W.map (·.1)
  dm : ∀ a, a ∈ W'.map (·.1) → a ∈ W.map (·.1) ∨ H a = none
  ho : ∀ a o, H a = some o → a ∉ W.map (·.1) → (∀ ps, o ≠ .tbl ps) → H' a = some o
  th : ∀ a o, H a = some o → ∃ o', H' a = some o'
  hk : Hk K T G' W' H'

section
variable {K : PySem.W.Frag} {T : Tb} {G G1 G2 : Hp} {W W1 W2 : OW} {H H1 H2 : Hp}
theorem Step.refl (h : Hk K T G W H) : Step K T G W H G W H := ⟨Le.refl G, fun _ _ e => .inl e, fun _ e => .inl e, fun _ _ e _ _ => e, fun _ o e => ⟨o, e⟩, h⟩
theorem Step.back (s : Step K T G W H G1 W1 H1) {a : Addr} (h : H1 a = none) : H a = none := by
  cases e : H a with
  | none => rfl
  | some o =>
    obtain ⟨o', q⟩ := s.th a o e
    rw [q] at h
    cases h
theorem Step.trans (s : Step K T G W H G1 W1 H1) (t : Step K T G1 W1 H1 G2 W2 H2) : Step K T G W H G2 W2 H2 := by
  refine ⟨s.le.trans t.le, fun a o e => ?_, fun a e => ?_, fun a o e hn ht => ?_, fun a o e => ?_, t.hk⟩
  · rcases t.fr a o e with q | q | q
    · exact s.fr a o q
    · exact .inr (.inl (s.back q))
    · rcases s.dm a q with z | z
      · exact .inr (.inr z)
      · exact .inr (.inl z)
  · rcases t.dm a e with q | q
    · exact s.dm a q
    · exact .inr (s.back q)
  · refine t.ho a o (s.ho a o e hn ht) (fun z => ?_) ht
    rcases s.dm a z with q | q
    · exact hn q
    · rw [q] at e
      cases e
  · obtain ⟨o1, e1⟩ := s.th a o e
    exact t.th a o1 e1
theorem Hk.gn (h : Hk K T G W H) {a : Addr} (e : H a = none) : G a = none := by
  cases q : G a with
  | none => rfl
  | some o =>
    rw [h.sub a o q] at e
    cases e
theorem Hk.wn (h : Hk K T G W H) {a : Addr} (e : H a = none) : a ∉ W.map (·.1) := fun z => by
  obtain ⟨p, hp, rfl⟩ := List.mem_map.mp z
  obtain ⟨_, o, ho, _⟩ := h.own p hp
  rw [ho] at e
  cases e
/-- tables after a change that is none of theirs -/
theorem Tb.Ok.upd (t : T.Ok G H) {p : Addr} {o : HO} (hp : (∀ ps, H p ≠ some (.tbl ps)) ∧ ∀ c q, H p ≠ some (LamX.CodeO c q)) : T.Ok G (upd H p o) := by
  have ne : ∀ P ps, H P = some (.tbl ps) → P ≠ p := fun P ps e z => by
    subst z
    exact hp.1 ps e
  refine ⟨fun P hP => ?_, fun P hP => ?_, fun P hP ps e => ?_⟩
  · obtain ⟨ps, e, q⟩ := t.1 P hP
    exact ⟨ps, by rw [upd_ne (ne P ps e)]; exact e, q⟩
  rotate_left
  · obtain ⟨ps0, e0, _⟩ := t.2.1 P hP
    rw [upd_ne (ne _ ps0 e0)] at e
    exact t.2.2 P hP ps e
  · obtain ⟨ps, e, q, r⟩ := t.2.1 P hP
    refine ⟨ps, by rw [upd_ne (ne _ ps e)]; exact e, q, fun pos cv hc => ?_⟩
    obtain ⟨c, e1, e2⟩ := r pos cv hc
    refine ⟨c, e1, ?_⟩
    have nc : c ≠ p := fun z => by
      subst z
      exact hp.2 _ _ e2
    rw [upd_ne nc]
    exact e2
/-- a new frozen object -/
theorem Hk.alloc (h : Hk K T G W H) {p : Addr} {o : HO} (hp : H p = none) (ht : ∀ ps, o ≠ .tbl ps) : Step K T G W H (upd G p o) W (upd H p o) := by
  have gp := h.gn hp
  have le : Le G (upd G p o) := fun a u e => by
    rw [upd_ne (ne_of_none e gp)]
    exact e
  refine ⟨le, fun a u e => ?_, fun _ e => .inl e, fun a u e _ _ => ?_, fun a u e => ⟨u, ?_⟩, fun a u e => ?_, fun a ps e => ?_, h.nod, fun q hq => ?_, (h.tab.mono le).upd ⟨fun ps e => ?_, fun c q e => ?_⟩⟩
  · by_cases ha : a = p
    · subst ha
      exact .inr (.inl hp)
    · rw [upd_ne ha] at e
      exact .inl e
  · rw [upd_ne (ne_of_none e hp)]
    exact e
  · rw [upd_ne (ne_of_none e hp)]
    exact e
  · by_cases ha : a = p
    · subst ha
      rw [upd_same] at e ⊢
      exact e
    · rw [upd_ne ha] at e ⊢
      exact h.sub a u e
  · by_cases ha : a = p
    · subst ha
      rw [upd_same] at e
      cases e
      exact ht ps rfl
    · rw [upd_ne ha] at e
      exact h.ntb a ps e
  · obtain ⟨g0, u, e, r⟩ := h.own q hq
    have nq : q.1 ≠ p := ne_of_none e hp
    exact ⟨by rw [upd_ne nq]; exact g0, u, by rw [upd_ne nq]; exact e, r.mono le⟩
  · rw [hp] at e
    cases e
  · rw [hp] at e
    cases e
/-- a new owned object -/
theorem Hk.allocO (h : Hk K T G W H) {p : Addr} {o : HO} {w : AO} (hp : H p = none) (r : RO K G o w) : Step K T G W H G ((p, w) :: W) (upd H p o) := by
  have gp := h.gn hp
  have wp := h.wn hp
  refine ⟨Le.refl G, fun _ _ e => .inl e, fun a e => ?_, fun a u e _ _ => ?_, fun a u e => ⟨u, ?_⟩, fun a u e => ?_, h.ntb, ?_, fun q hq => ?_, h.tab.upd ⟨fun ps e => ?_, fun c q e => ?_⟩⟩
  · rw [List.map_cons, List.mem_cons] at e
    rcases e with e | e
    · have e' : a = p := e
      rw [e']
      exact .inr hp
    · exact .inl e
  · rw [upd_ne (ne_of_none e hp)]
    exact e
  · rw [upd_ne (ne_of_none e hp)]
    exact e
  · rw [upd_ne (ne_of_none (h.sub a u e) hp)]
    exact h.sub a u e
  · rw [List.map_cons, List.nodup_cons]
    exact ⟨wp, h.nod⟩
  · rcases List.mem_cons.mp hq with e | hq
    · subst e
      exact ⟨gp, o, upd_same, r⟩
    · obtain ⟨g0, u, e, r'⟩ := h.own q hq
      exact ⟨g0, u, by rw [upd_ne (ne_of_none e hp)]; exact e, r'⟩
  · rw [hp] at e
    cases e
  · rw [hp] at e
    cases e
/-- an owned object changes -/
theorem Hk.write (h : Hk K T G W H) {i : Nat} {a : Addr} {w w' : AO} {o' : HO} (hi : W[i]? = some (a, w)) (r : RO K G o' w') (hx : ∀ c q, H a ≠ some (LamX.CodeO c q)) : Step K T G W H G (W.set i (a, w')) (upd H a o') := by
  have hm : (a, w) ∈ W := List.mem_of_getElem? hi
  have ha : a ∈ W.map (·.1) := List.mem_map.mpr ⟨_, hm, rfl⟩
  obtain ⟨g0, o, e0, r0⟩ := h.own _ hm
  have hil : i < W.length := (List.getElem?_eq_some_iff.mp hi).1
  have hmap : (W.set i (a, w')).map (·.1) = W.map (·.1) := by
    rw [List.map_set]
    refine List.ext_getElem? fun j => ?_
    by_cases hj : i = j
    · subst hj
      rw [List.getElem?_set_self (by rw [List.length_map]; exact hil), List.getElem?_map, hi]
      rfl
    · rw [List.getElem?_set_ne hj]
  refine ⟨Le.refl G, fun _ _ e => .inl e, fun b e => ?_, fun b u e hn _ => ?_, fun b u e => ?_, fun b u e => ?_, h.ntb, ?_, fun q hq => ?_, h.tab.upd ⟨fun ps e => ?_, hx⟩⟩
  · rw [hmap] at e
    exact .inl e
  · have nb : b ≠ a := fun z => by
      subst z
      exact hn ha
    rw [upd_ne nb]
    exact e
  · by_cases hb : b = a
    · subst hb
      exact ⟨o', upd_same⟩
    · exact ⟨u, by rw [upd_ne hb]; exact e⟩
  · have nb : b ≠ a := ne_of_none e g0
    rw [upd_ne nb]
    exact h.sub b u e
  · rw [hmap]
    exact h.nod
  · by_cases hq1 : q.1 = a
    · have hq2 : q = (a, w') := by
        obtain ⟨j, hj, ej⟩ := List.getElem_of_mem hq
        rw [List.length_set] at hj
        by_cases hji : i = j
        · subst hji
          rw [List.getElem_set_self] at ej
          exact ej.symm
        · exfalso
          rw [List.getElem_set_ne hji] at ej
          have n1 : (W.map (·.1))[i]? = some a := by
            rw [List.getElem?_map, hi]
            rfl
          have n2 : (W.map (·.1))[j]? = some a := by
            rw [List.getElem?_map, List.getElem?_eq_getElem hj, ej, ← hq1]
            rfl
          exact hji (nd_ix h.nod n1 n2)
      subst hq2
      exact ⟨g0, o', upd_same, r⟩
    · have hq3 : q ∈ W := by
        rcases List.mem_or_eq_of_mem_set hq with z | z
        · exact z
        · exact absurd (by rw [z]) hq1
      obtain ⟨g1, u, e, r1⟩ := h.own q hq3
      exact ⟨g1, u, by rw [upd_ne hq1]; exact e, r1⟩
  · rw [e0] at e
    exact r0.ntb ps (Option.some.inj e)
/-- fewer are known as owned -/
theorem Hk.less (h : Hk K T G W H) (hs : W1.Sublist W) : Hk K T G W1 H :=
  ⟨h.sub, h.ntb, h.nod.sublist (hs.map _), fun p hp => h.own p (hs.subset hp), h.tab⟩
/-- an owned list is frozen -/
theorem Hk.freeze (h : Hk K T G W H) {i : Nat} {a : Addr} {w : AO} (hi : W[i]? = some (a, w)) : ∃ o, H a = some o ∧ RO K G o w ∧ Step K T G W H (upd G a o) (W.eraseIdx i) H := by
  have hm : (a, w) ∈ W := List.mem_of_getElem? hi
  obtain ⟨g0, o, e0, r0⟩ := h.own _ hm
  have le : Le G (upd G a o) := fun b u e => by
    rw [upd_ne (ne_of_none e g0)]
    exact e
  have hsub : (W.eraseIdx i).Sublist W := List.eraseIdx_sublist W i
  have na : a ∉ (W.eraseIdx i).map (·.1) := fun z => by
    obtain ⟨p, hp, ep⟩ := List.mem_map.mp z
    obtain ⟨j, hj1, hj2, ej⟩ := List.mem_eraseIdx_iff_getElem.mp hp
    have n1 : (W.map (·.1))[i]? = some a := by
      rw [List.getElem?_map, hi]
      rfl
    have n2 : (W.map (·.1))[j]? = some a := by
      rw [List.getElem?_map, List.getElem?_eq_getElem hj1, ej, ← ep]
      rfl
    exact hj2 (nd_ix h.nod n2 n1)
  refine ⟨o, e0, r0, le, fun b u e => ?_, fun b e => .inl ((hsub.map _).subset e), fun _ _ e _ _ => e, fun b u e => ⟨u, e⟩, fun b u e => ?_, fun b ps e => ?_, h.nod.sublist (hsub.map _), fun q hq => ?_, h.tab.mono le⟩
  · by_cases hb : b = a
    · subst hb
      exact .inr (.inr (List.mem_map.mpr ⟨_, hm, rfl⟩))
    · rw [upd_ne hb] at e
      exact .inl e
  · by_cases hb : b = a
    · subst hb
      rw [upd_same] at e
      cases e
      exact e0
    · rw [upd_ne hb] at e
      exact h.sub b u e
  · by_cases hb : b = a
    · subst hb
      rw [upd_same] at e
      exact r0.ntb ps (Option.some.inj e)
    · rw [upd_ne hb] at e
      exact h.ntb b ps e
  · obtain ⟨g1, u, e, r1⟩ := h.own q (hsub.subset hq)
    have nq : q.1 ≠ a := fun z => na (z ▸ List.mem_map.mpr ⟨q, hq, rfl⟩)
    exact ⟨by rw [upd_ne nq]; exact g1, u, e, r1.mono le⟩
/-- a callee knew but W; what else is owned stands -/
theorem Step.more (h : Hk K T G (W ++ W2) H) (s : Step K T G W H G1 W1 H1) : Step K T G (W ++ W2) H G1 (W1 ++ W2) H1 := by
  have nod := h.nod
  rw [List.map_append] at nod
  have dis : ∀ a, a ∈ W2.map (·.1) → a ∉ W.map (·.1) := fun a h2 h1 => (List.nodup_append.mp nod).2.2 a h1 a h2 rfl
  have own2 : ∀ q ∈ W2, G q.1 = none ∧ ∃ o, H q.1 = some o ∧ RO K G o q.2 := fun q hq => h.own q (List.mem_append_right _ hq)
  have nn : ∀ a, a ∈ W2.map (·.1) → H a ≠ none := fun a ha e => by
    obtain ⟨q, hq, rfl⟩ := List.mem_map.mp ha
    obtain ⟨_, o, e1, _⟩ := own2 q hq
    rw [e1] at e
    cases e
  refine ⟨s.le, fun a o e => ?_, fun a e => ?_, fun a o e hn ht => ?_, s.th, s.hk.sub, s.hk.ntb, ?_, fun q hq => ?_, s.hk.tab⟩
  · rcases s.fr a o e with z | z | z
    · exact .inl z
    · exact .inr (.inl z)
    · exact .inr (.inr (by rw [List.map_append]; exact List.mem_append_left _ z))
  · rw [List.map_append, List.mem_append] at e
    rcases e with e | e
    · rcases s.dm a e with z | z
      · exact .inl (by rw [List.map_append]; exact List.mem_append_left _ z)
      · exact .inr z
    · exact .inl (by rw [List.map_append]; exact List.mem_append_right _ e)
  · exact s.ho a o e (fun z => hn (by rw [List.map_append]; exact List.mem_append_left _ z)) ht
  · rw [List.map_append]
    refine List.nodup_append.mpr ⟨s.hk.nod, (List.nodup_append.mp nod).2.1, fun a h1 b h2 e => ?_⟩
    subst e
    rcases s.dm a h1 with z | z
    · exact dis a h2 z
    · exact nn a h2 z
  · rcases List.mem_append.mp hq with hq | hq
    · exact s.hk.own q hq
    · obtain ⟨g0, o, e, r⟩ := own2 q hq
      have hqm : q.1 ∈ W2.map (·.1) := List.mem_map.mpr ⟨q, hq, rfl⟩
      refine ⟨?_, o, s.ho q.1 o e (dis _ hqm) r.ntb, r.mono s.le⟩
      cases z : G1 q.1 with
      | none => rfl
      | some u =>
        rcases s.fr q.1 u z with y | y | y
        · rw [g0] at y
          cases y
        · exact absurd y (nn _ hqm)
        · exact absurd y (dis _ hqm)
/-- what is owned, in another order -/
theorem Hk.perm (h : Hk K T G W H) (p : W.Perm W1) : Hk K T G W1 H :=
  ⟨h.sub, h.ntb, (p.map _).nodup_iff.mp h.nod, fun q hq => h.own q (p.mem_iff.mpr hq), h.tab⟩
theorem Step.perm (s : Step K T G W H G1 W1 H1) (p : W.Perm W2) {W3 : OW} (q : W1.Perm W3) : Step K T G W2 H G1 W3 H1 := by
  have e : ∀ a, a ∈ W.map (·.1) ↔ a ∈ W2.map (·.1) := fun a => (p.map _).mem_iff
  have e3 : ∀ a, a ∈ W1.map (·.1) ↔ a ∈ W3.map (·.1) := fun a => (q.map _).mem_iff
  refine ⟨s.le, fun a o h => ?_, fun a h => ?_, fun a o h hn ht => s.ho a o h (fun z => hn ((e a).mp z)) ht, s.th, s.hk.perm q⟩
  · rcases s.fr a o h with z | z | z
    · exact .inl z
    · exact .inr (.inl z)
    · exact .inr (.inr ((e a).mp z))
  · rcases s.dm a ((e3 a).mpr h) with z | z
    · exact .inl ((e a).mp z)
    · exact .inr z
/-- what is owned behind: some is forgotten -/
theorem Step.drop (s : Step K T G W H G1 W1 H1) (hs : W2.Sublist W1) : Step K T G W H G1 W2 H1 :=
  ⟨s.le, s.fr, fun a h => s.dm a ((hs.map _).subset h), s.ho, s.th, s.hk.less hs⟩
end
end Sh
set_option Elab.async false
set_option linter.all false
set_option maxRecDepth 100000
set_option maxHeartbeats 1000000
set_option autoImplicit false
/-! ShL: rules of operations that the layer lacks: tuples whose objects are known (they have no dict of their own), slices with steps. -/
namespace StepS
open PySem PySem.Spec PyProof.Rows L2
open HT (sIx)
/-- xs[a::c] -/
def strided {α : Type} (xs : List α) (a c : Nat) : List α := (List.range ((xs.length - a + c - 1) / c)).filterMap fun m => xs[a + m * c]?
/-- the picks of a list's slice with a step -/
def pickL {α : Type} (xs : List α) (lo hi st : Option Int) : List α := (sliceRange (sliceBounds lo hi st xs.length).1 (sliceBounds lo hi st xs.length).2.1 (sliceBounds lo hi st xs.length).2.2).filterMap (xs[·]?)
/-- .. of a tuple's -/
def pickT {α : Type} (xs : List α) (lo hi : Option Int) (c : Int) : List α := (List.range (Builtin.Slice.slicePlaces (Builtin.Slice.sliceAdjust lo hi c xs.length).1 (Builtin.Slice.sliceAdjust lo hi c xs.length).2 c)).filterMap fun (m : Nat) => xs[((Builtin.Slice.sliceAdjust lo hi c xs.length).1 + (m : Int) * c).toNat]?
/-- a pick by places -/
theorem vals_pick {xs : List V} {us : List Value} (r : Vals xs us) : ∀ l : List Nat, Vals (l.filterMap (xs[·]?)) (l.filterMap (us[·]?))
  | [] => .nil
  | i :: l => by
    rw [List.filterMap_cons, List.filterMap_cons]
    cases e : xs[i]? with
    | none =>
      rw [r.none_of e]
      exact vals_pick r l
    | some x =>
      obtain ⟨u, e2, q⟩ := r.get e
      rw [e2]
      exact .cons q (vals_pick r l)
theorem pick_length {α : Type} (xs : List α) : ∀ l : List Nat, (l.filterMap (xs[·]?)).length ≤ l.length := fun l => List.length_filterMap_le _ _
theorem range_map {α : Type} (xs : List α) (n : Nat) (g : Nat → Nat) : ((List.range n).map g).filterMap (xs[·]?) = (List.range n).filterMap fun m => xs[g m]? := by rw [List.filterMap_map]; rfl
theorem strided_eq {α : Type} (xs : List α) (a c n : Nat) (h : n = (xs.length - min a xs.length + c - 1) / c) (hc : 0 < c) : ((List.range n).filterMap fun m => xs[min a xs.length + m * c]?) = strided xs a c := by
  unfold strided
  by_cases ha : a ≤ xs.length
  · rw [Nat.min_eq_left ha] at h ⊢
    rw [h]
  · have e1 : min a xs.length = xs.length := Nat.min_eq_right (by omega)
    rw [e1, Nat.sub_self, Nat.zero_add] at h
    have e2 : xs.length - a = 0 := by omega
    rw [e2, Nat.zero_add, h, e1, Nat.div_eq_of_lt (by omega)]
    rfl
theorem pickL_from {α : Type} (xs : List α) (a c : Nat) (hc : 0 < c) : pickL xs (some (a : Int)) none (some (c : Int)) = strided xs a c := by
  have hb : sliceBounds (some (a : Int)) none (some (c : Int)) xs.length = (((min a xs.length : Nat) : Int), ((xs.length : Nat) : Int), (c : Int)) := by
    simp only [sliceBounds, Option.getD_some, show (c : Int) > 0 by omega, if_true, if_neg (show ¬ ((a : Int) < 0) by omega)]
    congr 1
    omega
  unfold pickL
  rw [hb]
  unfold sliceRange
  simp only [show (c : Int) > 0 by omega, if_true]
  rw [range_map]
  have e : (fun m : Nat => xs[(((min a xs.length : Nat) : Int) + (c : Int) * (m : Int)).toNat]?) = fun m => xs[min a xs.length + m * c]? := by
    funext m
    have : (((min a xs.length : Nat) : Int) + (c : Int) * (m : Int)).toNat = min a xs.length + m * c := by
      have : ((min a xs.length : Nat) : Int) + (c : Int) * (m : Int) = ((min a xs.length + m * c : Nat) : Int) := by
        rw [Int.natCast_add, Int.natCast_mul, Int.mul_comm]
      rw [this]
      rfl
    rw [this]
  rw [e]
  refine strided_eq xs a c _ ?_ hc
  by_cases hlt : ((min a xs.length : Nat) : Int) < (xs.length : Int)
  · rw [if_pos hlt]
    have : (xs.length : Int) - ((min a xs.length : Nat) : Int) + (c : Int) - 1 = ((xs.length - min a xs.length + c - 1 : Nat) : Int) := by omega
    rw [this]
    have : ((xs.length - min a xs.length + c - 1 : Nat) : Int) / (c : Int) = (((xs.length - min a xs.length + c - 1) / c : Nat) : Int) := rfl
    rw [this]
    rfl
  · rw [if_neg hlt]
    have : xs.length - min a xs.length + c - 1 < c := by omega
    rw [Nat.div_eq_of_lt this]
    rfl
theorem pickT_from {α : Type} (xs : List α) (a c : Nat) (hc : 0 < c) : pickT xs (some (a : Int)) none (c : Int) = strided xs a c := by
  have hb : Builtin.Slice.sliceAdjust (some (a : Int)) none (c : Int) xs.length = (((min a xs.length : Nat) : Int), ((xs.length : Nat) : Int)) := by
    unfold Builtin.Slice.sliceAdjust
    simp only [if_neg (show ¬ ((c : Int) < 0) by omega), if_neg (show ¬ ((a : Int) < 0) by omega)]
    congr 1
    omega
  unfold pickT
  rw [hb]
  have e : (fun m : Nat => xs[(((min a xs.length : Nat) : Int) + (m : Int) * (c : Int)).toNat]?) = fun m => xs[min a xs.length + m * c]? := by
    funext m
    have : (((min a xs.length : Nat) : Int) + (m : Int) * (c : Int)) = ((min a xs.length + m * c : Nat) : Int) := by
      rw [Int.natCast_add, Int.natCast_mul]
    show xs[(((min a xs.length : Nat) : Int) + (m : Int) * (c : Int)).toNat]? = _
    rw [this]
    rfl
  simp only
  rw [e]
  refine strided_eq xs a c _ ?_ hc
  unfold Builtin.Slice.slicePlaces
  rw [if_pos (by omega)]
  by_cases hlt : ((min a xs.length : Nat) : Int) < (xs.length : Int)
  · rw [if_pos hlt]
    have e1 : (xs.length : Int) - ((min a xs.length : Nat) : Int) - 1 = ((xs.length - min a xs.length - 1 : Nat) : Int) := by omega
    rw [e1]
    have e2 : ((xs.length - min a xs.length - 1 : Nat) : Int) / (c : Int) + 1 = (((xs.length - min a xs.length - 1) / c + 1 : Nat) : Int) := rfl
    rw [e2]
    show (xs.length - min a xs.length - 1) / c + 1 = _
    have h1 : xs.length - min a xs.length + c - 1 = (xs.length - min a xs.length - 1) + c := by omega
    rw [h1, Nat.add_div_right _ hc]
  · rw [if_neg hlt]
    have : xs.length - min a xs.length + c - 1 < c := by omega
    rw [Nat.div_eq_of_lt this]
    rfl
theorem filterMap_same {α β : Type} {f g : α → Option β} : ∀ {l : List α}, (∀ a ∈ l, f a = g a) → l.filterMap f = l.filterMap g
  | [], _ => rfl
  | a :: l, h => by
    rw [List.filterMap_cons, List.filterMap_cons, h a List.mem_cons_self, filterMap_same fun b hb => h b (List.mem_cons_of_mem _ hb)]
theorem range_rev {α : Type} (xs : List α) : ((List.range xs.length).filterMap fun m => xs[xs.length - 1 - m]?) = xs.reverse := by
  have e : ∀ n, n ≤ xs.length → ((List.range n).filterMap fun m => xs[xs.length - 1 - m]?) = xs.reverse.take n := by
    intro n
    induction n with
    | zero => intro _; rfl
    | succ n ih =>
      intro h
      rw [List.range_succ, List.filterMap_append, ih (by omega), List.take_succ, List.getElem?_reverse (by omega)]
      congr 1
  rw [e _ (Nat.le_refl _), List.take_of_length_le (by rw [List.length_reverse]; exact Nat.le_refl _)]
theorem pickL_rev {α : Type} (xs : List α) : pickL xs none none (some (-1)) = xs.reverse := by
  have hb : sliceBounds none none (some (-1)) xs.length = ((xs.length : Int) - 1, -1, -1) := by
    simp [sliceBounds]
  unfold pickL
  rw [hb]
  unfold sliceRange
  simp only
  rw [if_neg (by decide)]
  rw [range_map]
  have hn : (if ((xs.length : Int) - 1 > -1) then ((xs.length : Int) - 1 - -1 - -1 - 1) / (- -1) else 0).toNat = xs.length := by
    rw [show (- -1 : Int) = 1 by decide, Int.ediv_one]
    split <;> omega
  rw [hn]
  rw [← range_rev xs]
  refine filterMap_same fun m hm => ?_
  have : m < xs.length := List.mem_range.mp hm
  have e : ((xs.length : Int) - 1 + -1 * (m : Int)).toNat = xs.length - 1 - m := by omega
  rw [e]
theorem pickT_rev {α : Type} (xs : List α) : pickT xs none none (-1) = xs.reverse := by
  have hb : Builtin.Slice.sliceAdjust none none (-1) xs.length = ((xs.length : Int) - 1, -1) := by
    unfold Builtin.Slice.sliceAdjust
    rfl
  unfold pickT
  rw [hb]
  have hn : Builtin.Slice.slicePlaces ((xs.length : Int) - 1) (-1) (-1) = xs.length := by
    unfold Builtin.Slice.slicePlaces
    rw [if_neg (by decide), show (- -1 : Int) = 1 by decide, Int.ediv_one]
    split <;> omega
  show (List.range (Builtin.Slice.slicePlaces ((xs.length : Int) - 1) (-1) (-1))).filterMap _ = _
  rw [hn, ← range_rev xs]
  refine filterMap_same fun m hm => ?_
  have : m < xs.length := List.mem_range.mp hm
  have e : ((xs.length : Int) - 1 + (m : Int) * -1).toNat = xs.length - 1 - m := by omega
  show xs[((xs.length : Int) - 1 + (m : Int) * -1).toNat]? = _
  rw [e]
section
variable {prog : Program} {w : World} {A : Around} {E : Value → Shared → Prop} {s : Shared}
theorem sliceApplied_st {sl : Addr} {vl vu vs : Value} {lo hi : Option Int} {c : Int} {n : Nat} {Q : Int × Int × Nat → Shared → Prop} (hs : s.heap.IsSliceOf sl vl vu vs) (pl : IsPart vl lo) (pu : IsPart vu hi) (ps : IsPart vs (some c)) (h0 : c ≠ 0)
    (h : Q ((Builtin.Slice.sliceAdjust lo hi c n).1, c, Builtin.Slice.slicePlaces (Builtin.Slice.sliceAdjust lo hi c n).1 (Builtin.Slice.sliceAdjust lo hi c n).2 c) s) : wpAny (model prog w) A (Builtin.Slice.sliceApplied (.ref sl) (pure (n : Int))) Q E s := by
  obtain ⟨os, hos, hcs, hds⟩ := id hs
  unfold Builtin.Slice.sliceApplied Builtin.Slice.sliceFields
  refine wpAny_bind (wpAny_bind (wpAny_field hos hds (x := vl) rfl (wpAny_bind (wpAny_field hos hds (x := vu) rfl (wpAny_bind (wpAny_field hos hds (x := vs) rfl (wpAny_pure ?_)))))))
  refine wpAny_bind (HT.slicePart_ ps ?_)
  show wpAny _ _ (if (c == 0) = true then _ else _) _ _ s
  rw [if_neg (by simpa using h0)]
  refine wpAny_bind (HT.slicePart_ pl (wpAny_bind (HT.slicePart_ pu (wpAny_bind (wpAny_pure ?_)))))
  exact wpAny_pure h
theorem getItem_tuple_step {t sl : Addr} {items : Array Value} {vl vu vs : Value} {lo hi : Option Int} {c : Int} {Q : Value → Shared → Prop} (ht : IsTup s.heap t items) (hs : s.heap.IsSliceOf sl vl vu vs) (pl : IsPart vl lo) (pu : IsPart vu hi) (ps : IsPart vs (some c)) (h0 : c ≠ 0)
    (h1 : ((Builtin.Slice.sliceAdjust lo hi c items.size).1 == 0 && c == 1 && (Builtin.Slice.slicePlaces (Builtin.Slice.sliceAdjust lo hi c items.size).1 (Builtin.Slice.sliceAdjust lo hi c items.size).2 c) == items.size) = true → Q (.ref t) s)
    (h2 : ((Builtin.Slice.sliceAdjust lo hi c items.size).1 == 0 && c == 1 && (Builtin.Slice.slicePlaces (Builtin.Slice.sliceAdjust lo hi c items.size).1 (Builtin.Slice.sliceAdjust lo hi c items.size).2 c) == items.size) = false →
      Q (.ref s.heap.objs.size) { s with heap := s.heap.push { cls := .type "tuple", data := .seq (pickT items.toList lo hi c).toArray } })
    (hsz : (pickT items.toList lo hi c).length ≤ sizeLine) : wpAny (model prog w) A (getItem (.ref t) (.ref sl)) Q E s := by
  obtain ⟨os, hos, hcs, hds⟩ := id hs
  have hTs : s.TypeIs (.ref sl) "slice" := ⟨os, hos, hcs⟩
  have hpk : ((List.range (Builtin.Slice.slicePlaces (Builtin.Slice.sliceAdjust lo hi c items.size).1 (Builtin.Slice.sliceAdjust lo hi c items.size).2 c)).filterMap fun (m : Nat) => items[((Builtin.Slice.sliceAdjust lo hi c items.size).1 + (m : Int) * c).toNat]?).toArray = (pickT items.toList lo hi c).toArray := by
    unfold pickT
    rw [Array.length_toList]
    simp only [Array.getElem?_toList]
  unfold getItem
  try with_reducible refine wpAny_holding ?_
  first | refine wpAny_bind (wpAny_pure ?_) | skip
  refine wpAny_bind (wpAny_sequenceKey ht.typeIs (by decide) ?_)
  refine wpAny_bind (wpAny_callSpecial?_slot (name := Str.ofString "__getitem__") ht.typeIs PyProof.Rows.slot_tuple_getitem
    (wpAny_call_entry PyProof.Rows.slot_tuple_getitem ht.typeIs entry_tuple_getitem ?_ (args_tuple_getitem _ _)))
  show wpAny _ _ (Builtin.Tuple.tupleItemsOf (.ref t) >>= _) _ _ s
  refine wpAny_bind (tupleItemsOf_ ht ?_)
  refine wpAny_bind (wpAny_typeOf hTs ?_)
  rw [if_pos (by decide)]
  refine wpAny_bind (sliceApplied_st hs pl pu ps h0 ?_)
  show wpAny _ _ (if ((Builtin.Slice.sliceAdjust lo hi c items.size).1 == 0 && c == 1 && (Builtin.Slice.slicePlaces (Builtin.Slice.sliceAdjust lo hi c items.size).1 (Builtin.Slice.sliceAdjust lo hi c items.size).2 c) == items.size) = true then _ else _) _ _ s
  cases hb : ((Builtin.Slice.sliceAdjust lo hi c items.size).1 == 0 && c == 1 && (Builtin.Slice.slicePlaces (Builtin.Slice.sliceAdjust lo hi c items.size).1 (Builtin.Slice.sliceAdjust lo hi c items.size).2 c) == items.size) with
  | true =>
    rw [if_pos rfl]
    refine wpAny_bind ?_
    show wpAny _ _ (typeOf (.ref t) >>= fun T => pure (T == .type "tuple")) _ _ s
    refine wpAny_bind (wpAny_typeOf ht.typeIs (wpAny_pure ?_))
    first
      | rw [if_pos (by decide)]
      | simp only [beq_self_eq_true, if_true]
    first
      | exact wpAny_bind (wpAny_rule (wpAny_pure ⟨_, rfl, wpAny_pure (h1 hb)⟩))
      | exact wpAny_bind (wpAny_rule (wpAny_bind (wpAny_pure (wpAny_pure ⟨_, rfl, wpAny_pure (h1 hb)⟩))))
  | false =>
    rw [if_neg Bool.false_ne_true, hpk]
    have htake : sizeOk (.seq (pickT items.toList lo hi c).toArray) := by
      show (pickT items.toList lo hi c).toArray.size ≤ sizeLine
      rw [List.size_toArray]
      exact hsz
    have h := h2 hb
    first
      | exact wpAny_bind (m := Builtin.Tuple.tupleExact _) (wpAny_newObj_type (wpAny_pure ⟨_, rfl, wpAny_pure h⟩) htake)
      | exact wpAny_bind (m := Builtin.Tuple.tupleExact _) (wpAny_newObj_type (wpAny_bind (wpAny_pure (wpAny_pure ⟨_, rfl, wpAny_pure h⟩))) htake)
      | exact wpAny_bind (wpAny_bind (m := Builtin.Tuple.tupleExact _) (wpAny_newObj_type (wpAny_pure (wpAny_pure ⟨_, rfl, wpAny_pure h⟩)) htake))
      | exact wpAny_bind (wpAny_bind (m := Builtin.Tuple.tupleExact _) (wpAny_newObj_type (wpAny_pure ⟨_, rfl, wpAny_pure h⟩) htake))
end

/-! ### over the layer -/
/-- a tuple's object -/
def TupO (o : Obj) : Prop := o.cls = .type "tuple" ∧ o.dict = none
theorem laidT {X : Cx} {pins : List (Addr × Obj)} {σ : L2.St} {H : Hp} {s : Shared} {xs : List V} {its : List Value} (I : Inv X pins σ H s) (r : Vals xs its) (hz : xs.length ≤ sizeLine) :
    Inv X pins σ (upd H s.heap.objs.size (.frz { cls := .type "tuple", data := .seq its.toArray } (.tup xs))) { s with heap := s.heap.push { cls := .type "tuple", data := .seq its.toArray } } :=
  I.laid (t' := s.toks) (fun b o e => Heap.get?_push_of_some _ e) (Nat.le_refl _) (show ObjOk X.prog X.w _ _ _ (.frz _ (.tup xs)) from ⟨Heap.get?_push_size _ rfl, hz, its, r, IsTup.new _ _⟩)
/-- what is wanted of a new tuple -/
def NewT (xs : List V) (H : Hp) (Q : VK) : Prop := ∀ p o, H p = none → TupO o → Q (.ref p) (upd H p (.frz o (.tup xs)))
theorem NewT.go {X : Cx} {pins : List (Addr × Obj)} {σ : L2.St} {H : Hp} {s : Shared} {xs : List V} {its : List Value} {Q : VK} (q : NewT xs H Q) (I : Inv X pins σ H s) (r : Vals xs its) (hz : xs.length ≤ sizeLine) :
    EP X pins σ Q (.ref s.heap.objs.size) { s with heap := s.heap.push { cls := .type "tuple", data := .seq its.toArray } } :=
  ⟨.ref s.heap.objs.size, _, laidT I r hz, rfl, q _ _ (I.hok.fresh (Nat.le_refl _)) ⟨rfl, rfl⟩⟩
section
variable {X : Cx} {es : List Expr} {t : TA} {pos : Pos}
def tTupF (t : TA) : TE := fun σ H Q => t σ H fun xs H1 => xs.length ≤ sizeLine ∧ NewT xs H1 Q
theorem pe_tupF {n : Nat} (h : PA X es t) : PE X (.Tuple es n pos) (tTupF t) :=
  ⟨fun pins s σ H Q I hq => wpAny_Tuple_spliced (thn (h.run pos pins s σ H _ I hq) fun us s1 ⟨xs, H1, I1, r, z, q⟩ => ⟨by rw [← r.length]; exact z, q.go I1 r z⟩)⟩
def rCatF (K : PySem.W.Frag) : R2 := fun x y H Q => ∃ a b xs ys, x = .ref a ∧ y = .ref b ∧ SqT K H a xs ∧ SqT K H b ys ∧ xs.length + ys.length ≤ sizeLine ∧ (xs = [] → Q (.ref b) H) ∧ (xs ≠ [] → ys = [] → Q (.ref a) H) ∧ (xs ≠ [] → ys ≠ [] → NewT (xs ++ ys) H Q)
theorem op_catF : OpR X (binaryOp .Add) (rCatF X.K) := by
  rintro pins s σ H _ _ v u Q I rx ry ⟨a, b, xs, ys, rfl, rfl, ha, hb, hz, q0, q1, q2⟩
  cases rx
  cases ry
  obtain ⟨its, r1, p1, _⟩ := I.tuple ha
  obtain ⟨its2, r2, p2, _⟩ := I.tuple hb
  by_cases hx : xs = []
  · subst hx
    cases r1
    exact cat_tup0 p1 p2 ⟨.ref b, H, I, rfl, q0 rfl⟩
  · refine HT.cat_tup p1 p2 (fun z => hx (r1.nil_iff.mp z)) (fun z => ⟨.ref a, H, I, rfl, q1 hx (r2.nil_iff.mp z)⟩) (fun z => ?_) (by rw [← r1.length, ← r2.length]; exact hz)
    exact (q2 hx fun w => z (r2.nil_iff.mpr w)).go I (r1.append r2) (by rw [List.length_append]; exact hz)
def rSlF (K : PySem.W.Frag) : V → Option Int → Option Int → Hp → VK → Prop := fun x lo hi H Q => ∃ a xs, x = .ref a ∧ SqT K H a xs ∧
  (sIx xs.length 0 lo = 0 ∧ sIx xs.length xs.length hi = xs.length → Q (.ref a) H) ∧ (¬ (sIx xs.length 0 lo = 0 ∧ sIx xs.length xs.length hi = xs.length) → NewT (cutV xs lo hi) H Q)
theorem sl_tupF : SlR X (rSlF X.K) := by
  rintro pins s σ H _ v vl vu lo hi sl Q I rx hs pl pu ⟨a, xs, rfl, hx, q1, q2⟩
  cases rx
  obtain ⟨its, r, ht, hz⟩ := I.tuple hx
  have hlen : its.toArray.size = xs.length := by rw [List.size_toArray]; exact r.length.symm
  refine ⟨"tuple", _, PyProof.Rows.slot_tuple_getitem.lookup, ht.typeIs, ?_⟩
  by_cases hw : sIx xs.length 0 lo = 0 ∧ sIx xs.length xs.length hi = xs.length
  · exact getItem_tuple_whole ht hs pl pu (by rw [hlen]; exact hw) ⟨.ref a, H, I, rfl, q1 hw⟩
  · refine HT.getItem_tuple_cut ht hs pl pu (by rw [hlen]; exact hw) ?_ (by rw [hlen]; exact hz)
    rw [hlen]
    exact (q2 hw).go I ((r.drop _).take _) (Nat.le_trans (cutV_length xs lo hi) hz)
def rTupF (K : PySem.W.Frag) : List V → Hp → VK → Prop := fun xs H Q => ∃ p ys, xs = [.ref p] ∧ ((SqL K H p ys ∧ NewT ys H Q) ∨ (SqT K H p ys ∧ Q (.ref p) H))
theorem call_tupF : CallR X (.type "tuple") (rTupF X.K) := by
  rintro pins s σ H _ us Q I r ⟨p, ys, rfl, h⟩
  obtain ⟨u, rfl, rx⟩ := vals1 r
  cases rx
  rcases h with ⟨hq, q⟩ | ⟨hq, q⟩
  · obtain ⟨its, r', pl, hz⟩ := I.list hq
    have hlen := r'.length
    refine call_tuple_list pl.isList (fun h' kp => ?_) (by simp only [List.size_toArray] <;> omega)
    exact q.go (s := { s with heap := h' }) (I.kept (t' := s.toks) kp) r' hz
  · obtain ⟨its, r', pl, hz⟩ := I.tuple hq
    exact call_tuple_same pl ⟨.ref p, H, I, rfl, q⟩
end
/-- o[lo:hi:st], o a list -/
def tStL (K : PySem.W.Frag) (to : TE) (tl th ts : TO) : TE := fun σ H Q => to σ H fun x H1 => tl σ H1 fun lo H2 => th σ H2 fun hi H3 => ts σ H3 fun st H4 => ∃ a xs, x = .ref a ∧ SqL K H4 a xs ∧ st ≠ some 0 ∧ ∀ p, H4 p = none → Q (.ref p) (upd H4 p (.lst (pickL xs lo hi st)))
def tStT (K : PySem.W.Frag) (to : TE) (tl th ts : TO) : TE := fun σ H Q => to σ H fun x H1 => tl σ H1 fun lo H2 => th σ H2 fun hi H3 => ts σ H3 fun st H4 => ∃ a xs c, x = .ref a ∧ SqT K H4 a xs ∧ st = some c ∧ c ≠ 0 ∧ (pickT xs lo hi c).length ≤ sizeLine ∧
  (((Builtin.Slice.sliceAdjust lo hi c xs.length).1 == 0 && c == 1 && (Builtin.Slice.slicePlaces (Builtin.Slice.sliceAdjust lo hi c xs.length).1 (Builtin.Slice.sliceAdjust lo hi c xs.length).2 c) == xs.length) = true → Q (.ref a) H4) ∧
  (((Builtin.Slice.sliceAdjust lo hi c xs.length).1 == 0 && c == 1 && (Builtin.Slice.slicePlaces (Builtin.Slice.sliceAdjust lo hi c xs.length).1 (Builtin.Slice.sliceAdjust lo hi c xs.length).2 c) == xs.length) = false → NewT (pickT xs lo hi c) H4 Q)
section
variable {X : Cx} {e st : Expr} {to : TE} {lo hi : Option Expr} {tl th ts : TO} {pos p3 : Pos}
theorem pe_stL (ho : PE X e to) (hl : PO X lo tl) (hu : PO X hi th) (hs : PO X (some st) ts) : PE X (.Subscript e (.Slice lo hi (some st) p3) pos) (tStL X.K to tl th ts) := by
  refine ⟨fun pins s σ H Q I h => ?_⟩
  refine Subscript_ (thn (ho.run pins s σ H _ I h) fun v s1 ⟨x, H1, I1, r1, q1⟩ => ?_)
  refine wpAny_Slice (thn (hl.run pins s1 σ H1 _ I1 q1) fun vl s2 ⟨l, H2, I2, pl, q2⟩ => thn (hu.run pins s2 σ H2 _ I2 q2) fun vu s3 ⟨u, H3, I3, pu, q3⟩ => thn (hs.run pins s3 σ H3 _ I3 q3) fun vs s4 ⟨o, H4, I4, ps, q4⟩ => ?_)
  obtain ⟨a, xs, ex, hx, h0, q⟩ := q4
  subst ex
  cases r1
  have I5 : Inv X pins σ H4 { s4 with heap := s4.heap.push { cls := .type "slice", data := .fields #[vl, vu, vs] } } := I4.kept (t' := s4.toks) fun b ob q => Heap.get?_push_of_some _ q
  obtain ⟨its, r, ht, hz⟩ := I5.list hx
  have hlen := r.length
  show wpAny (model X.prog X.w) X.A (subscriptTail e (.Slice lo hi (some st) p3) (.ref a) (.ref s4.heap.objs.size)) (EP X pins σ Q) X.xe { s4 with heap := s4.heap.push { cls := .type "slice", data := .fields #[vl, vu, vs] } }
  refine tail_any (ops := [.ref a, .ref s4.heap.objs.size]) ht.isList.typeIs (PySem.slot_list_getitem.lookup) ?_ (by with_unfolding_all rfl)
  refine wpAny_getItem_list_slice ht.isList (Heap.IsSliceOf.new _ vl vu vs) pl pu ps h0 ?_ (by rw [List.size_toArray]; omega)
  have hle : (slicePick its.toArray l u o).size ≤ its.toArray.size := slicePick_size_le _ _ _ _
  have hpk : (slicePick its.toArray l u o).toList = (sliceRange (sliceBounds l u o xs.length).1 (sliceBounds l u o xs.length).2.1 (sliceBounds l u o xs.length).2.2).filterMap (its[·]?) := by
    unfold slicePick
    rw [List.size_toArray, ← hlen]
    simp
  have rv : Vals (pickL xs l u o) (slicePick its.toArray l u o).toList := by
    rw [hpk]
    exact vals_pick r _
  refine ⟨.ref _, _, I5.laid (t' := s4.toks) (o := .lst (pickL xs l u o)) (fun b ob q => Heap.get?_push_of_some _ q) (Nat.le_refl _) ?_, rfl, q _ (I5.hok.fresh (Nat.le_refl _))⟩
  refine ⟨?_, _, 0, rv, ?_⟩
  · rw [rv.length, Array.length_toList]
    have hs2 : its.toArray.size = its.length := by simp
    exact Nat.le_trans hle (by omega)
  · rw [Heap.get?_push_size _ rfl]
theorem pe_stT (ho : PE X e to) (hl : PO X lo tl) (hu : PO X hi th) (hs : PO X (some st) ts) : PE X (.Subscript e (.Slice lo hi (some st) p3) pos) (tStT X.K to tl th ts) := by
  refine ⟨fun pins s σ H Q I h => ?_⟩
  refine Subscript_ (thn (ho.run pins s σ H _ I h) fun v s1 ⟨x, H1, I1, r1, q1⟩ => ?_)
  refine wpAny_Slice (thn (hl.run pins s1 σ H1 _ I1 q1) fun vl s2 ⟨l, H2, I2, pl, q2⟩ => thn (hu.run pins s2 σ H2 _ I2 q2) fun vu s3 ⟨u, H3, I3, pu, q3⟩ => thn (hs.run pins s3 σ H3 _ I3 q3) fun vs s4 ⟨o, H4, I4, ps, q4⟩ => ?_)
  obtain ⟨a, xs, c, ex, hx, ec, h0, hz, h1, h2⟩ := q4
  subst ex ec
  cases r1
  have I5 : Inv X pins σ H4 { s4 with heap := s4.heap.push { cls := .type "slice", data := .fields #[vl, vu, vs] } } := I4.kept (t' := s4.toks) fun b ob q => Heap.get?_push_of_some _ q
  obtain ⟨its, r, ht, hz2⟩ := I5.tuple hx
  have hlen := r.length
  have hsz : its.toArray.size = xs.length := by rw [List.size_toArray]; exact hlen.symm
  have rv : Vals (pickT xs l u c) (pickT its l u c) := by
    unfold pickT
    rw [← hlen]
    have := vals_pick r ((List.range (Builtin.Slice.slicePlaces (Builtin.Slice.sliceAdjust l u c xs.length).1 (Builtin.Slice.sliceAdjust l u c xs.length).2 c)).map fun (m : Nat) => ((Builtin.Slice.sliceAdjust l u c xs.length).1 + (m : Int) * c).toNat)
    rw [range_map, range_map] at this
    exact this
  show wpAny (model X.prog X.w) X.A (subscriptTail e (.Slice lo hi (some st) p3) (.ref a) (.ref s4.heap.objs.size)) (EP X pins σ Q) X.xe { s4 with heap := s4.heap.push { cls := .type "slice", data := .fields #[vl, vu, vs] } }
  refine tail_any (ops := [.ref a, .ref s4.heap.objs.size]) ht.typeIs (PyProof.Rows.slot_tuple_getitem.lookup) ?_ (by with_unfolding_all rfl)
  refine getItem_tuple_step ht (Heap.IsSliceOf.new _ vl vu vs) pl pu ps h0 (fun hb => ?_) (fun hb => ?_) (by rw [← rv.length]; exact hz)
  · rw [hsz] at hb
    exact ⟨.ref a, H4, I5, rfl, h1 hb⟩
  · rw [hsz] at hb
    exact (h2 hb).go I5 rv hz
end
end StepS
set_option Elab.async false
set_option linter.all false
set_option maxRecDepth 100000
set_option maxHeartbeats 1000000
set_option autoImplicit false
/-! ShB: judgements over (slots, owned objects): expressions (EV), argument lists (EA), tests (ET); names, operators, comparisons, displays, subscripts. -/
namespace Sh
open PySem PySem.Spec PyProof.Rows L2

/-- what a piece of code knows of where it stands -/
structure CF where
  P : Program
  w : World
  K : PySem.W.Frag
  mg : Str → Option Value
  base : Heap
  N : List Str
  sc : Scope
  k : Nat
  cd : Value
  E : XK
  T : Tb
  q : Str
  cl : Option (List (Str × Addr))
structure Sat (F : CF) (X : Cx) : Prop where
  P : X.prog = F.P
  w : X.w = F.w
  K : X.K = F.K
  mg : X.mg = F.mg
  base : X.base = F.base
  N : X.N = F.N
  sc : X.env.scope = F.sc
  cd : X.env.code = F.cd
  room : Room F.k X.A
  calm : X.calm = true
  pass : Passes (L2.CX X.prog X.w) X F.E
  qual : X.env.qual = F.q
  cl : ∀ l, F.cl = some l → X.env.cells = l
  held : ∀ l, F.cl = some l → X.stack = X.env :: X.outer ∧ X.env.frame = some X.env.locals ∧ Takes X fun cls d _ H => F.E cls d H
abbrev Ga := List (Option D)
def Slots (K : PySem.W.Frag) (G : Hp) (Γ : Ga) (σ : L2.St) : Prop := Γ.length = σ.length ∧ ∀ (i : Nat) (d : D), Γ[i]? = some (some d) → ∃ v, σ[i]? = some (some v) ∧ Rp K G v d
theorem Slots.mono {K : PySem.W.Frag} {G G' : Hp} {Γ : Ga} {σ : L2.St} (h : Slots K G Γ σ) (e : Le G G') : Slots K G' Γ σ :=
  ⟨h.1, fun i d a => by
    obtain ⟨v, e1, r⟩ := h.2 i d a
    exact ⟨v, e1, r.mono e⟩⟩
theorem Slots.put {K : PySem.W.Frag} {G : Hp} {Γ : Ga} {σ : L2.St} (h : Slots K G Γ σ) (i : Nat) {v : V} {d : D} (r : Rp K G v d) : Slots K G (Γ.set i (some d)) (σ.set i (some v)) := by
  refine ⟨by rw [List.length_set, List.length_set, h.1], fun j e a => ?_⟩
  by_cases hj : i = j
  · subst hj
    have hl : i < Γ.length := by
      have := (List.getElem?_eq_some_iff.mp a).1
      rw [List.length_set] at this
      exact this
    rw [List.getElem?_set_self hl] at a
    cases a
    exact ⟨v, List.getElem?_set_self (by rw [← h.1]; exact hl), r⟩
  · rw [List.getElem?_set_ne hj] at a
    obtain ⟨w, e1, r1⟩ := h.2 j e a
    exact ⟨w, by rw [List.getElem?_set_ne hj]; exact e1, r1⟩
/-- less is known -/
def Lq (Γ Γ' : Ga) : Prop := Γ'.length = Γ.length ∧ ∀ (i : Nat) (d : D), Γ'[i]? = some (some d) → Γ[i]? = some (some d)
theorem Lq.refl (Γ : Ga) : Lq Γ Γ := ⟨rfl, fun _ _ h => h⟩
theorem Slots.less {K : PySem.W.Frag} {G : Hp} {Γ Γ' : Ga} {σ : L2.St} (h : Slots K G Γ σ) (l : Lq Γ Γ') : Slots K G Γ' σ :=
  ⟨l.1.trans h.1, fun i d a => h.2 i d (l.2 i d a)⟩

inductive Out where
  | ok (d : D) | er (c : Addr)
inductive OutA where
  | ok (ds : List D) | er (c : Addr)
inductive OutT where
  | ok (b : Bool) | er (c : Addr)
section
variable (F : CF) (G : Hp) (W : OW) (H : Hp)
def Kont (o : Out) (W' : OW) (Q : VK) : Prop := match o with
  | .ok d => ∀ v G' H', Step F.K F.T G W H G' W' H' → Rp F.K G' v d → Q v H'
  | .er c => ∀ G' H', Step F.K F.T G W H G' W' H' → F.E (.ref c) none H'
def KontA (o : OutA) (W' : OW) (Q : List V → Hp → Prop) : Prop := match o with
  | .ok ds => ∀ vs G' H', Step F.K F.T G W H G' W' H' → Rps F.K G' vs ds → Q vs H'
  | .er c => ∀ G' H', Step F.K F.T G W H G' W' H' → F.E (.ref c) none H'
def KontT (o : OutT) (W' : OW) (Q : Bool → Hp → Prop) : Prop := match o with
  | .ok b => ∀ G' H', Step F.K F.T G W H G' W' H' → Q b H'
  | .er c => ∀ G' H', Step F.K F.T G W H G' W' H' → F.E (.ref c) none H'
end
section
variable {F : CF} {G G1 : Hp} {W W1 W2 : OW} {H H1 : Hp}
theorem Kont.step {o : Out} {Q : VK} (k : Kont F G W H o W2 Q) (s : Step F.K F.T G W H G1 W1 H1) : Kont F G1 W1 H1 o W2 Q := by
  cases o with
  | ok d => exact fun v G' H' t r => k v G' H' (s.trans t) r
  | er c => exact fun G' H' t => k G' H' (s.trans t)
theorem KontA.step {o : OutA} {Q : List V → Hp → Prop} (k : KontA F G W H o W2 Q) (s : Step F.K F.T G W H G1 W1 H1) : KontA F G1 W1 H1 o W2 Q := by
  cases o with
  | ok d => exact fun v G' H' t r => k v G' H' (s.trans t) r
  | er c => exact fun G' H' t => k G' H' (s.trans t)
theorem KontT.step {o : OutT} {Q : Bool → Hp → Prop} (k : KontT F G W H o W2 Q) (s : Step F.K F.T G W H G1 W1 H1) : KontT F G1 W1 H1 o W2 Q := by
  cases o with
  | ok d => exact fun G' H' t => k G' H' (s.trans t)
  | er c => exact fun G' H' t => k G' H' (s.trans t)
end

/-- the readings -/
def cE (F : CF) (e : Expr) : TE := fun σ H Q => ∃ t : TE, (∀ X, Sat F X → PE X e t) ∧ t σ H Q
def cA (F : CF) (es : List Expr) : TA := fun σ H Q => ∃ t : TA, (∀ X, Sat F X → PA X es t) ∧ t σ H Q
def cT (F : CF) (e : Expr) : TT := fun σ H Q => ∃ t : TT, (∀ X, Sat F X → PT X e t) ∧ t σ H Q
def cW (F : CF) (e : Expr) : TT := fun σ H Q => ∃ t : TT, (∀ X, Sat F X → PW X e t) ∧ t σ H Q
section
variable {F : CF} {X : Cx} {e : Expr} {es : List Expr}
theorem cE_pe (h : Sat F X) : PE X e (cE F e) := ⟨fun pins s σ H Q I ⟨_, ht, q⟩ => (ht X h).run pins s σ H Q I q⟩
theorem cA_pa (h : Sat F X) : PA X es (cA F es) := ⟨fun pos pins s σ H Q I ⟨_, ht, q⟩ => (ht X h).run pos pins s σ H Q I q⟩
theorem cT_pt (h : Sat F X) : PT X e (cT F e) := ⟨fun pins s σ H Q I ⟨_, ht, q⟩ => (ht X h).run pins s σ H Q I q⟩
theorem cW_pw (h : Sat F X) : PW X e (cW F e) := ⟨fun wh pins s σ H Q I ⟨_, ht, q⟩ => (ht X h).run wh pins s σ H Q I q⟩
end
def EV (F : CF) (e : Expr) (Γ : Ga) (W : OW) (o : Out) (W' : OW) : Prop := ∀ (G H : Hp) (σ : L2.St) (Q : VK), Slots F.K G Γ σ → Hk F.K F.T G W H → Kont F G W H o W' Q → cE F e σ H Q
def EA (F : CF) (es : List Expr) (Γ : Ga) (W : OW) (o : OutA) (W' : OW) : Prop := ∀ (G H : Hp) (σ : L2.St) (Q : List V → Hp → Prop), Slots F.K G Γ σ → Hk F.K F.T G W H → KontA F G W H o W' Q → cA F es σ H Q
def ET (F : CF) (e : Expr) (Γ : Ga) (W : OW) (o : OutT) (W' : OW) : Prop := ∀ (G H : Hp) (σ : L2.St) (Q : Bool → Hp → Prop), Slots F.K G Γ σ → Hk F.K F.T G W H → KontT F G W H o W' Q → cT F e σ H Q
def EW (F : CF) (e : Expr) (Γ : Ga) (W : OW) (o : OutT) (W' : OW) : Prop := ∀ (G H : Hp) (σ : L2.St) (Q : Bool → Hp → Prop), Slots F.K G Γ σ → Hk F.K F.T G W H → KontT F G W H o W' Q → cW F e σ H Q

theorem Sat.un {F : CF} {X : Cx} (h : Sat F X) : X.A.units + 65 < cLine := by have := h.room.un; omega

section
variable {F : CF} {Γ : Ga} {W W1 W2 W3 : OW} {pos : Pos} {a b c : Expr} {d d1 d2 d3 : D} {o : Out}
/-- a reading that is the same everywhere -/
theorem ev_t {e : Expr} (t : TE) (h : ∀ X, Sat F X → PE X e t) (q : ∀ (G H : Hp) (σ : L2.St) (Q : VK), Slots F.K G Γ σ → Hk F.K F.T G W H → Kont F G W H o W1 Q → t σ H Q) : EV F e Γ W o W1 :=
  fun G H σ Q sl hk k => ⟨t, h, q G H σ Q sl hk k⟩

/-! ### names, constants -/
/-- a name the scope has -/
def VisS (sc : Scope) (x : Str) : Prop := sc.names.lookup x = some .local ∨ sc.names.lookup x = some .cell ∨ sc.names.lookup x = some .free
theorem ev_var (i : Nat) {x : Str} (hN : F.N[i]? = some x) (hv : VisS F.sc x) (hΓ : Γ[i]? = some (some d)) (hd : (x == ("__debug__" : Str)) = false := by decide) (hcd : (x == ("__classdict__" : Str)) = false := by decide) : EV F (.Name x pos) Γ W (.ok d) W :=
  ev_t (tVar i) (fun X hX => pe_var (by rw [hX.N]; exact hN) (by unfold Vis; rw [hX.sc]; exact hv) hd hcd) fun G H σ Q sl hk k => by
    obtain ⟨v, e, r⟩ := sl.2 i d hΓ
    exact ⟨v, e, k v G H (.refl hk) r⟩
theorem ev_int {i : Int} {j : Nat} : EV F (.Constant (.int i) j pos) Γ W (.ok (.int i)) W := ev_t _ (fun X hX => pe_int) fun G H σ Q sl hk k => k _ G H (.refl hk) (.int i)
theorem ev_bl {i : Bool} {j : Nat} : EV F (.Constant (.bool i) j pos) Γ W (.ok (.bl i)) W := ev_t _ (fun X hX => pe_bl) fun G H σ Q sl hk k => k _ G H (.refl hk) (.bl i)
theorem ev_non {j : Nat} : EV F (.Constant .none j pos) Γ W (.ok .non) W := ev_t _ (fun X hX => pe_non) fun G H σ Q sl hk k => k _ G H (.refl hk) .non
theorem ev_str {x : Str} {j : Nat} : EV F (.Constant (.str x) j pos) Γ W (.ok (.str x)) W := ev_t _ (fun X hX => pe_str) fun G H σ Q sl hk k => k _ G H (.refl hk) (.str x)
/-- a global name of the code -/
def GlS (F : CF) (x : Str) : Prop := F.sc.names.lookup x = some .globalImplicit
theorem Sat.gl {X : Cx} (h : Sat F X) {x : Str} (g : GlS F x) : Gl X x := by
  unfold Gl Env.kindOf
  rw [h.sc]
  exact g
/-- a constant of the module, by what it stands for at any heap -/
theorem ev_glob {x : Str} {u : Value} {v : V} (hg : GlS F x) (hm : F.mg x = some u) (r : RelV v u) (hd : ∀ G, Rp F.K G v d) (hdb : (x == ("__debug__" : Str)) = false := by decide) : EV F (.Name x pos) Γ W (.ok d) W :=
  ev_t (tC v) (fun X hX => pe_glob (hX.gl hg) (by rw [hX.mg]; exact hm) r hdb) fun G H σ Q sl hk k => k _ G H (.refl hk) (hd G)

/-! ### argument lists -/
theorem ea_nil : EA F [] Γ W (.ok []) W := fun G H σ Q sl hk k => ⟨tNil, fun X hX => pa_nil, k [] G H (.refl hk) .nil⟩
def OutA.cons (d : D) : OutA → OutA
  | .ok ds => .ok (d :: ds)
  | .er c => .er c
theorem ea_cons {e : Expr} {es : List Expr} {ds : List D} (h : EV F e Γ W (.ok d) W1) (t : EA F es Γ W1 (.ok ds) W2) (hs : ∀ env, starEach (e :: es) env = (false, eval e env) :: starEach es env := by intro _; rfl) : EA F (e :: es) Γ W (.ok (d :: ds)) W2 :=
  fun G H σ Q sl hk k => ⟨tCons (cE F e) (cA F es), fun X hX => pa_cons (cE_pe hX) (cA_pa hX) (hs _),
    h G H σ _ sl hk fun v G1 H1 s1 r1 => t G1 H1 σ _ (sl.mono s1.le) s1.hk fun vs G2 H2 s2 r2 => k _ G2 H2 (s1.trans s2) (r2.cons (r1.mono s2.le))⟩
theorem ea_er {e : Expr} {es : List Expr} {cl : Addr} (h : EV F e Γ W (.er cl) W1) (hs : ∀ env, starEach (e :: es) env = (false, eval e env) :: starEach es env := by intro _; rfl) : EA F (e :: es) Γ W (.er cl) W1 :=
  fun G H σ Q sl hk k => ⟨tCons (cE F e) (cA F es), fun X hX => pa_cons (cE_pe hX) (cA_pa hX) (hs _), h G H σ _ sl hk k⟩
theorem ea_er2 {e : Expr} {es : List Expr} {cl : Addr} (h : EV F e Γ W (.ok d) W1) (t : EA F es Γ W1 (.er cl) W2) (hs : ∀ env, starEach (e :: es) env = (false, eval e env) :: starEach es env := by intro _; rfl) : EA F (e :: es) Γ W (.er cl) W2 :=
  fun G H σ Q sl hk k => ⟨tCons (cE F e) (cA F es), fun X hX => pa_cons (cE_pe hX) (cA_pa hX) (hs _),
    h G H σ _ sl hk fun v G1 H1 s1 r1 => t G1 H1 σ _ (sl.mono s1.le) s1.hk fun G2 H2 s2 => k G2 H2 (s1.trans s2)⟩

/-! ### two values in a row -/
theorem ev_op {op : Operator} {r : R2} (ho : ∀ X, Sat F X → OpR X (binaryOp op) r) (ha : EV F a Γ W (.ok d1) W1) (hb : EV F b Γ W1 (.ok d2) W2)
    (hr : ∀ (G H : Hp) (x y : V) (Q : VK), Hk F.K F.T G W2 H → Rp F.K G x d1 → Rp F.K G y d2 → Kont F G W2 H o W3 Q → r x y H Q) : EV F (.BinOp a op b pos) Γ W o W3 :=
  fun G H σ Q sl hk k => ⟨tOp r (cE F a) (cE F b), fun X hX => pe_op (ho X hX) (cE_pe hX) (cE_pe hX),
    ha G H σ _ sl hk fun x G1 H1 s1 r1 => hb G1 H1 σ _ (sl.mono s1.le) s1.hk fun y G2 H2 s2 r2 => hr G2 H2 x y Q s2.hk (r1.mono s2.le) r2 (k.step (s1.trans s2))⟩
theorem ev_bin_er {op : Operator} {cl : Addr} (ha : EV F a Γ W (.er cl) W1) : EV F (.BinOp a op b pos) Γ W (.er cl) W1 :=
  fun G H σ Q sl hk k => ⟨tOp (fun _ _ _ _ => False) (cE F a) (cE F b), fun X hX => pe_op (fun _ _ _ _ _ _ _ _ _ _ _ _ z => z.elim) (cE_pe hX) (cE_pe hX), ha G H σ _ sl hk k⟩
theorem ev_bin_er2 {op : Operator} {cl : Addr} (ha : EV F a Γ W (.ok d1) W1) (hb : EV F b Γ W1 (.er cl) W2) : EV F (.BinOp a op b pos) Γ W (.er cl) W2 :=
  fun G H σ Q sl hk k => ⟨tOp (fun _ _ _ _ => False) (cE F a) (cE F b), fun X hX => pe_op (fun _ _ _ _ _ _ _ _ _ _ _ _ z => z.elim) (cE_pe hX) (cE_pe hX),
    ha G H σ _ sl hk fun x G1 H1 s1 r1 => hb G1 H1 σ _ (sl.mono s1.le) s1.hk fun G2 H2 s2 => k G2 H2 (s1.trans s2)⟩

/-- a list, frozen or owned -/
def AsL (W : OW) (d : D) (ds : List D) : Prop := d = .lst ds ∨ ∃ (a : Addr) (i : Nat), d = .ptr a ∧ W[i]? = some (a, .lst ds)
theorem AsL.own {W : OW} {a : Addr} {ds : List D} (i : Nat) (h : W[i]? = some (a, .lst ds)) : AsL W (.ptr a) ds := .inr ⟨a, i, rfl, h⟩
theorem AsL.lst {W : OW} {ds : List D} : AsL W (.lst ds) ds := .inl rfl
theorem AsL.at {K : PySem.W.Frag} {T : Tb} {G H : Hp} {W : OW} {d : D} {ds : List D} {v : V} (h : AsL W d ds) (hk : Hk K T G W H) (r : Rp K G v d) : ∃ a vs, v = .ref a ∧ H a = some (.lst vs) ∧ Rps K G vs ds := by
  rcases h with rfl | ⟨a, i, rfl, hi⟩
  · obtain ⟨a, vs, rfl, e, q⟩ := r.lst_inv
    exact ⟨a, vs, rfl, hk.sub a _ e, q⟩
  · cases r
    obtain ⟨_, o, e, q⟩ := hk.own _ (List.mem_of_getElem? hi)
    obtain ⟨vs, rfl, q⟩ := q.lst_inv
    exact ⟨a, vs, rfl, e, q⟩
theorem sqt_up {K : PySem.W.Frag} {T : Tb} {G H : Hp} {W : OW} {a : Addr} {vs : List V} (hk : Hk K T G W H) (h : TupK K G a vs) : SqT K H a vs := Le.st hk.sub h.sq
/-- a new list, frozen -/
theorem Kont.newL {F : CF} {G H : Hp} {W : OW} {Q : VK} {ds : List D} {vs : List V} {p : Addr} (k : Kont F G W H (.ok (.lst ds)) W Q) (hk : Hk F.K F.T G W H) (hp : H p = none) (r : Rps F.K G vs ds) : Q (.ref p) (upd H p (.lst vs)) := by
  have s := hk.alloc (o := .lst vs) hp (fun ps e => nomatch e)
  exact k _ _ _ s (.lst_mk upd_same (r.mono s.le))
theorem Kont.newT {F : CF} {G H : Hp} {W : OW} {Q : VK} {ds : List D} {vs : List V} (k : Kont F G W H (.ok (.tup ds)) W Q) (hk : Hk F.K F.T G W H) (r : Rps F.K G vs ds) : StepS.NewT vs H Q := fun p o hp ho => by
  have s := hk.alloc (o := .frz o (.tup vs)) hp (fun ps e => nomatch e)
  exact k _ _ _ s (.tup_mk (.inl ⟨o, upd_same, ho⟩) (r.mono s.le))

/-! ### operators -/
inductive BinR (W : OW) : Operator → D → D → D → Prop
  | addI (i j : Int) : BinR W .Add (.int i) (.int j) (.int (i + j))
  | subI (i j : Int) : BinR W .Sub (.int i) (.int j) (.int (i - j))
  | mulI (i j : Int) (h : (-(2 ^ 64) < i ∧ i < 2 ^ 64) ∨ (-(2 ^ 64) < j ∧ j < 2 ^ 64)) : BinR W .Mult (.int i) (.int j) (.int (i * j))
  | divI (i j : Int) (h : 0 < j ∧ j < 2 ^ 30) : BinR W .FloorDiv (.int i) (.int j) (.int (i / j))
  | modI (i j : Int) (h : 0 < j) : BinR W .Mod (.int i) (.int j) (.int (i % j))
  | addS (x y : Str) (h : x.length + y.length ≤ sizeLine) : BinR W .Add (.str x) (.str y) (.str (x ++ y))
  | addL {d1 d2 : D} {xs ys : List D} (h1 : AsL W d1 xs) (h2 : AsL W d2 ys) (h : xs.length + ys.length ≤ sizeLine) : BinR W .Add d1 d2 (.lst (xs ++ ys))
  | addT (xs ys : List D) (h : xs.length + ys.length ≤ sizeLine) : BinR W .Add (.tup xs) (.tup ys) (.tup (xs ++ ys))
  | repL {d1 : D} {xs : List D} (i : Int) (h1 : AsL W d1 xs) (h : -(2 ^ 63) ≤ i ∧ i < 2 ^ 63 ∧ xs.length * i.toNat ≤ sizeLine) : BinR W .Mult d1 (.int i) (.lst (List.replicate i.toNat xs).flatten)
theorem Rps.rep {K : PySem.W.Frag} {G : Hp} {vs : List V} {ds : List D} (h : Rps K G vs ds) : ∀ n : Nat, Rps K G (List.replicate n vs).flatten (List.replicate n ds).flatten
  | 0 => .nil
  | n + 1 => by
    rw [List.replicate_succ, List.replicate_succ, List.flatten_cons, List.flatten_cons]
    exact h.append (Rps.rep h n)
theorem ev_bin {op : Operator} (ha : EV F a Γ W (.ok d1) W1) (hb : EV F b Γ W1 (.ok d2) W2) (h : BinR W2 op d1 d2 d) : EV F (.BinOp a op b pos) Γ W (.ok d) W2 := by
  cases h with
  | addI i j => exact ev_op (fun X _ => op_add) ha hb fun G H x y Q hk rx ry k => ⟨i, j, rx.int_inv, ry.int_inv, k _ G H (.refl hk) (.int _)⟩
  | subI i j => exact ev_op (fun X _ => op_sub) ha hb fun G H x y Q hk rx ry k => ⟨i, j, rx.int_inv, ry.int_inv, k _ G H (.refl hk) (.int _)⟩
  | mulI i j h => exact ev_op (fun X _ => op_mul) ha hb fun G H x y Q hk rx ry k => ⟨i, j, rx.int_inv, ry.int_inv, h, k _ G H (.refl hk) (.int _)⟩
  | divI i j h => exact ev_op (fun X _ => op_fdiv) ha hb fun G H x y Q hk rx ry k => ⟨i, j, rx.int_inv, ry.int_inv, h, k _ G H (.refl hk) (.int _)⟩
  | modI i j h => exact ev_op (fun X _ => op_mod) ha hb fun G H x y Q hk rx ry k => ⟨i, j, rx.int_inv, ry.int_inv, h, k _ G H (.refl hk) (.int _)⟩
  | addS x y h => exact ev_op (fun X _ => op_add_str) ha hb fun G H v w Q hk rx ry k => ⟨x, y, rx.str_inv, ry.str_inv, h, k _ G H (.refl hk) (.str _)⟩
  | addL h1 h2 h =>
    refine ev_op (fun X _ => op_cat) ha hb fun G H x y Q hk rx ry k => ?_
    obtain ⟨p, vs, rfl, e1, q1⟩ := h1.at hk rx
    obtain ⟨q, ws, rfl, e2, q2⟩ := h2.at hk ry
    exact ⟨p, q, vs, ws, rfl, rfl, e1, e2, by rw [q1.1, q2.1]; exact h, fun r hr => k.newL hk hr (q1.append q2)⟩
  | addT xs ys h =>
    refine ev_op (r := StepS.rCatF F.K) (fun X hX => hX.K ▸ StepS.op_catF) ha hb fun G H x y Q hk rx ry k => ?_
    obtain ⟨p, vs, rfl, e1, q1⟩ := rx.tup_inv
    obtain ⟨q, ws, rfl, e2, q2⟩ := ry.tup_inv
    refine ⟨p, q, vs, ws, rfl, rfl, sqt_up hk e1, sqt_up hk e2, by rw [q1.1, q2.1]; exact h, fun e => ?_, fun _ e => ?_, fun _ _ => k.newT hk (q1.append q2)⟩
    · refine k _ G H (.refl hk) (.tup_mk e2 ?_)
      have : xs = [] := by
        have := q1.1
        rw [e] at this
        exact List.eq_nil_of_length_eq_zero this.symm
      rw [this]
      exact q2
    · refine k _ G H (.refl hk) (.tup_mk e1 ?_)
      have : ys = [] := by
        have := q2.1
        rw [e] at this
        exact List.eq_nil_of_length_eq_zero this.symm
      rw [this, List.append_nil]
      exact q1
  | repL i h1 h =>
    refine ev_op (fun X _ => op_rep) ha hb fun G H x y Q hk rx ry k => ?_
    obtain ⟨p, vs, rfl, e1, q1⟩ := h1.at hk rx
    exact ⟨p, i, vs, rfl, ry.int_inv, e1, h.1, h.2.1, by rw [q1.1]; exact h.2.2, fun r hr => k.newL hk hr (q1.rep _)⟩

/-! ### comparisons -/
/-- what == looks at -/
inductive Py (W : OW) : D → PyData → Prop
  | non : Py W .non .none
  | bl (b : Bool) : Py W (.bl b) (.bool b)
  | int (i : Int) : Py W (.int i) (.int i)
  | str (x : Str) : Py W (.str x) (.str x)
  | lst {ds : List D} {ps : List PyData} : ds.length = ps.length → (∀ (i : Nat) (d : D) (p : PyData), ds[i]? = some d → ps[i]? = some p → Py W d p) → Py W (.lst ds) (.list ps)
  | tup {ds : List D} {ps : List PyData} : ds.length = ps.length → (∀ (i : Nat) (d : D) (p : PyData), ds[i]? = some d → ps[i]? = some p → Py W d p) → Py W (.tup ds) (.tuple ps)
  | own {a : Addr} {i : Nat} {ds : List D} {ps : List PyData} : W[i]? = some (a, .lst ds) → ds.length = ps.length → (∀ (i : Nat) (d : D) (p : PyData), ds[i]? = some d → ps[i]? = some p → Py W d p) → Py W (.ptr a) (.list ps)
theorem dpAll_of {K : PySem.W.Frag} {H : Hp} : ∀ {vs : List V} {ps : List PyData}, vs.length = ps.length → (∀ (i : Nat) (v : V) (p : PyData), vs[i]? = some v → ps[i]? = some p → Dp K H v p) → DpAll K H vs ps
  | [], [], _, _ => .nil
  | [], _ :: _, h, _ => by simp at h
  | _ :: _, [], h, _ => by simp at h
  | v :: vs, p :: ps, h, q => .cons (q 0 v p rfl rfl) (dpAll_of (by simpa using h) fun i v p a b => q (i + 1) v p (by simpa using a) (by simpa using b))
theorem Py.dp {K : PySem.W.Frag} {T : Tb} {G H : Hp} {W : OW} (hk : Hk K T G W H) {d : D} {p : PyData} (h : Py W d p) : ∀ {v : V}, Rp K G v d → Dp K H v p := by
  induction h with
  | non => intro v r; cases r; exact .non
  | bl b => intro v r; cases r; exact .bl b
  | int i => intro v r; cases r; exact .int i
  | str x => intro v r; cases r; exact .str x
  | lst hl _ ih =>
    intro v r
    obtain ⟨a, vs, rfl, e, q⟩ := r.lst_inv
    refine .lst (SqL.of (hk.sub a _ e)) (dpAll_of (q.1.trans hl) fun i v p e1 e2 => ?_)
    obtain ⟨d, e3, r3⟩ := q.getV e1
    exact ih i d p e3 e2 r3
  | tup hl _ ih =>
    intro v r
    obtain ⟨a, vs, rfl, e, q⟩ := r.tup_inv
    refine .tup (sqt_up hk e) (dpAll_of (q.1.trans hl) fun i v p e1 e2 => ?_)
    obtain ⟨d, e3, r3⟩ := q.getV e1
    exact ih i d p e3 e2 r3
  | own hi hl _ ih =>
    intro v r
    cases r
    obtain ⟨_, o, e, q⟩ := hk.own _ (List.mem_of_getElem? hi)
    obtain ⟨vs, rfl, q⟩ := q.lst_inv
    refine .lst (SqL.of e) (dpAll_of (q.1.trans hl) fun i v p e1 e2 => ?_)
    obtain ⟨d, e3, r3⟩ := q.getV e1
    exact ih i d p e3 e2 r3
theorem ev_cmp {op : CmpOp} {r : R2} (ho : ∀ X, Sat F X → OpR X (compareOp op) r) (hm : behindInMarks op b = false) (ha : EV F a Γ W (.ok d1) W1) (hb : EV F b Γ W1 (.ok d2) W2)
    (hr : ∀ (G H : Hp) (x y : V) (Q : VK), Hk F.K F.T G W2 H → Rp F.K G x d1 → Rp F.K G y d2 → Kont F G W2 H o W3 Q → r x y H Q) : EV F (.Compare a [op] [b] pos) Γ W o W3 :=
  fun G H σ Q sl hk k => ⟨tOp r (cE F a) (cE F b), fun X hX => pe_cmpR (ho X hX) (cE_pe hX) (cE_pe hX) hm,
    ha G H σ _ sl hk fun x G1 H1 s1 r1 => hb G1 H1 σ _ (sl.mono s1.le) s1.hk fun y G2 H2 s2 r2 => hr G2 H2 x y Q s2.hk (r1.mono s2.le) r2 (k.step (s1.trans s2))⟩
/-- comparisons that change nothing, by values -/
inductive CmpR (W : OW) : CmpOp → D → D → Bool → Prop
  | ltI (i j : Int) : CmpR W .Lt (.int i) (.int j) (decide (i < j))
  | leI (i j : Int) : CmpR W .LtE (.int i) (.int j) (decide (i ≤ j))
  | gtI (i j : Int) : CmpR W .Gt (.int i) (.int j) (decide (j < i))
  | geI (i j : Int) : CmpR W .GtE (.int i) (.int j) (decide (j ≤ i))
  | eqI (i j : Int) : CmpR W .Eq (.int i) (.int j) (decide (i = j))
  | neI (i j : Int) : CmpR W .NotEq (.int i) (.int j) (!decide (i = j))
  | eqS (i j : Str) : CmpR W .Eq (.str i) (.str j) (decide (i = j))
  | neS (i j : Str) : CmpR W .NotEq (.str i) (.str j) (!decide (i = j))
  | eqB (i j : Bool) : CmpR W .Eq (.bl i) (.bl j) (decide (i = j))
  | neB (i j : Bool) : CmpR W .NotEq (.bl i) (.bl j) (!decide (i = j))
  | isN0 : CmpR W .Is .non .non true
  | ntN0 : CmpR W .IsNot .non .non false
  | isN {d : D} (h : d ≠ .non) : CmpR W .Is d .non false
  | ntN {d : D} (h : d ≠ .non) : CmpR W .IsNot d .non true
  | eqD {d1 d2 : D} {p q : PyData} (h1 : Py W d1 p) (h2 : Py W d2 q) (s1 : SeqAt.shaped p = true) (s2 : SeqAt.shaped q = true) {b : Bool} (e : PyData.eqv p q = b) : CmpR W .Eq d1 d2 b
  | neD {d1 d2 : D} {p q : PyData} (h1 : Py W d1 p) (h2 : Py W d2 q) (s1 : SeqAt.shaped p = true) (s2 : SeqAt.shaped q = true) {b : Bool} (e : (!PyData.eqv p q) = b) : CmpR W .NotEq d1 d2 b
  | inS (c : Nat) (z : Str) : CmpR W .In (.str ⟨#[c]⟩) (.str z) (decide (c ∈ z.cps.toList))
  | niS (c : Nat) (z : Str) : CmpR W .NotIn (.str ⟨#[c]⟩) (.str z) (!decide (c ∈ z.cps.toList))
  | inL {d1 d2 : D} {p : PyData} {qs : List PyData} (h1 : Py W d1 p) (h2 : Py W d2 (.list qs)) (s1 : SeqAt.shaped p = true) (s2 : SeqAt.shaped (.list qs) = true) {b : Bool} (e : (qs.any fun z => PyData.eqv z p) = b) : CmpR W .In d1 d2 b
  | niL {d1 d2 : D} {p : PyData} {qs : List PyData} (h1 : Py W d1 p) (h2 : Py W d2 (.list qs)) (s1 : SeqAt.shaped p = true) (s2 : SeqAt.shaped (.list qs) = true) {b : Bool} (e : (!qs.any fun z => PyData.eqv z p) = b) : CmpR W .NotIn d1 d2 b
  | inT {d1 d2 : D} {p : PyData} {qs : List PyData} (h1 : Py W d1 p) (h2 : Py W d2 (.tuple qs)) (s1 : SeqAt.shaped p = true) (s2 : SeqAt.shaped (.tuple qs) = true) {b : Bool} (e : (qs.any fun z => PyData.eqv z p) = b) : CmpR W .In d1 d2 b
  | niT {d1 d2 : D} {p : PyData} {qs : List PyData} (h1 : Py W d1 p) (h2 : Py W d2 (.tuple qs)) (s1 : SeqAt.shaped p = true) (s2 : SeqAt.shaped (.tuple qs) = true) {b : Bool} (e : (!qs.any fun z => PyData.eqv z p) = b) : CmpR W .NotIn d1 d2 b
def rInTu (K : PySem.W.Frag) (n : Bool) : R2 := fun x y H Q => ∃ d ds, Dp K H x d ∧ Dp K H y (.tuple ds) ∧ SeqAt.shaped d = true ∧ SeqAt.shaped (.tuple ds) = true ∧ Q (.bl (if n then !ds.any fun z => PyData.eqv z d else ds.any fun z => PyData.eqv z d)) H
theorem room_in_tu {A : Around} {d : PyData} {ds : List PyData} (sd : SeqAt.shaped d = true) (hu : A.units + 65 < cLine) : A.units + 1 + min (PyData.depthAll ds) d.depth < cLine := by
  have h1 := SeqAt.depth_of_shaped sd
  have h2 : min (PyData.depthAll ds) d.depth ≤ d.depth := Nat.min_le_right _ _
  omega
theorem op_inTu {X : Cx} (hu : X.A.units + 65 < cLine) : OpR X (compareOp .In) (rInTu X.K false) := by
  intro pins s σ H x y v u Q I rx ry h
  obtain ⟨d, ds, hd, he, sd, se, q⟩ := h
  obtain ⟨as, r1⟩ := Dp.reads I d x v hd rx
  obtain ⟨bs, r2⟩ := Dp.reads I (.tuple ds) y u he ry
  exact SeqAt.in_tuple_reads r2 r1 (SeqAt.canLay_of_shaped se) (SeqAt.canLay_of_shaped sd) (room_in_tu sd hu) ⟨.bl _, H, I, rfl, q⟩
theorem op_niTu {X : Cx} (hu : X.A.units + 65 < cLine) : OpR X (compareOp .NotIn) (rInTu X.K true) := by
  intro pins s σ H x y v u Q I rx ry h
  obtain ⟨d, ds, hd, he, sd, se, q⟩ := h
  obtain ⟨as, r1⟩ := Dp.reads I d x v hd rx
  obtain ⟨bs, r2⟩ := Dp.reads I (.tuple ds) y u he ry
  exact SeqAt.notIn_tuple_reads r2 r1 (SeqAt.canLay_of_shaped se) (SeqAt.canLay_of_shaped sd) (room_in_tu sd hu) ⟨.bl _, H, I, rfl, q⟩
theorem Rp.nn {K : PySem.W.Frag} {G : Hp} {v : V} {d : D} (r : Rp K G v d) (h : d ≠ .non) : v ≠ .non := by
  intro e
  subst e
  cases r
  exact h rfl
theorem dec_is {v w : V} : decide (v = w) = decide (v = w) := rfl
/-- the rule of a comparison as an operation -/
theorem cmp_run {op : CmpOp} {d1 d2 : D} {b : Bool} (h : CmpR W op d1 d2 b) : ∃ r : R2, (∀ X, Sat F X → OpR X (compareOp op) r) ∧ ∀ (G H : Hp) (x y : V) (Q : VK), Hk F.K F.T G W H → Rp F.K G x d1 → Rp F.K G y d2 → Q (.bl b) H → r x y H Q := by
  cases h with
  | ltI i j => exact ⟨_, fun X _ => op_lt, fun G H x y Q hk rx ry k => ⟨i, j, rx.int_inv, ry.int_inv, k⟩⟩
  | leI i j => exact ⟨_, fun X _ => op_le, fun G H x y Q hk rx ry k => ⟨i, j, rx.int_inv, ry.int_inv, k⟩⟩
  | gtI i j => exact ⟨_, fun X _ => op_gt, fun G H x y Q hk rx ry k => ⟨i, j, rx.int_inv, ry.int_inv, k⟩⟩
  | geI i j => exact ⟨_, fun X _ => op_ge, fun G H x y Q hk rx ry k => ⟨i, j, rx.int_inv, ry.int_inv, k⟩⟩
  | eqI i j => exact ⟨_, fun X _ => op_eq, fun G H x y Q hk rx ry k => by
      rw [rx.int_inv, ry.int_inv]
      refine ⟨rfl, ?_⟩
      rw [show decide (V.int i = V.int j) = decide (i = j) by simp]
      exact k⟩
  | neI i j => exact ⟨_, fun X _ => op_ne, fun G H x y Q hk rx ry k => by
      rw [rx.int_inv, ry.int_inv]
      refine ⟨rfl, ?_⟩
      rw [show decide (V.int i = V.int j) = decide (i = j) by simp]
      exact k⟩
  | eqS i j => exact ⟨_, fun X _ => op_eq, fun G H x y Q hk rx ry k => by
      rw [rx.str_inv, ry.str_inv]
      refine ⟨rfl, ?_⟩
      rw [show decide (V.str i = V.str j) = decide (i = j) by simp]
      exact k⟩
  | neS i j => exact ⟨_, fun X _ => op_ne, fun G H x y Q hk rx ry k => by
      rw [rx.str_inv, ry.str_inv]
      refine ⟨rfl, ?_⟩
      rw [show decide (V.str i = V.str j) = decide (i = j) by simp]
      exact k⟩
  | eqB i j => exact ⟨_, fun X _ => op_eq, fun G H x y Q hk rx ry k => by
      rw [rx.bl_inv, ry.bl_inv]
      refine ⟨rfl, ?_⟩
      rw [show decide (V.bl i = V.bl j) = decide (i = j) by simp]
      exact k⟩
  | neB i j => exact ⟨_, fun X _ => op_ne, fun G H x y Q hk rx ry k => by
      rw [rx.bl_inv, ry.bl_inv]
      refine ⟨rfl, ?_⟩
      rw [show decide (V.bl i = V.bl j) = decide (i = j) by simp]
      exact k⟩
  | isN0 => exact ⟨_, fun X _ => op_isN, fun G H x y Q hk rx ry k => ⟨ry.non_inv, by rw [decide_eq_true rx.non_inv]; exact k⟩⟩
  | ntN0 => exact ⟨_, fun X _ => op_notN, fun G H x y Q hk rx ry k => ⟨ry.non_inv, by rw [decide_eq_true rx.non_inv]; exact k⟩⟩
  | isN h => exact ⟨_, fun X _ => op_isN, fun G H x y Q hk rx ry k => ⟨ry.non_inv, by rw [decide_eq_false (rx.nn h)]; exact k⟩⟩
  | ntN h => exact ⟨_, fun X _ => op_notN, fun G H x y Q hk rx ry k => ⟨ry.non_inv, by rw [decide_eq_false (rx.nn h)]; exact k⟩⟩
  | eqD h1 h2 s1 s2 e => exact ⟨rEqD F.K, fun X hX => hX.K ▸ op_eqD (by have := hX.un; omega), fun G H x y Q hk rx ry k => ⟨_, _, h1.dp hk rx, h2.dp hk ry, s1, s2, by rw [e]; exact k⟩⟩
  | neD h1 h2 s1 s2 e => exact ⟨rNeD F.K, fun X hX => hX.K ▸ op_neD (by have := hX.un; omega), fun G H x y Q hk rx ry k => ⟨_, _, h1.dp hk rx, h2.dp hk ry, s1, s2, by rw [e]; exact k⟩⟩
  | inS c z => exact ⟨_, fun X _ => op_in_sign, fun G H x y Q hk rx ry k => ⟨c, z, rx.str_inv, ry.str_inv, k⟩⟩
  | niS c z => exact ⟨_, fun X _ => op_notIn_sign, fun G H x y Q hk rx ry k => ⟨c, z, rx.str_inv, ry.str_inv, k⟩⟩
  | inL h1 h2 s1 s2 e => exact ⟨rInD F.K, fun X hX => hX.K ▸ op_inD hX.un, fun G H x y Q hk rx ry k => ⟨_, _, h1.dp hk rx, h2.dp hk ry, s1, s2, by rw [e]; exact k⟩⟩
  | niL h1 h2 s1 s2 e => exact ⟨rNotInD F.K, fun X hX => hX.K ▸ op_notInD hX.un, fun G H x y Q hk rx ry k => ⟨_, _, h1.dp hk rx, h2.dp hk ry, s1, s2, by rw [e]; exact k⟩⟩
  | inT h1 h2 s1 s2 e => exact ⟨rInTu F.K false, fun X hX => hX.K ▸ op_inTu hX.un, fun G H x y Q hk rx ry k => ⟨_, _, h1.dp hk rx, h2.dp hk ry, s1, s2, by
      rw [e]
      exact k⟩⟩
  | niT h1 h2 s1 s2 e => exact ⟨rInTu F.K true, fun X hX => hX.K ▸ op_niTu hX.un, fun G H x y Q hk rx ry k => ⟨_, _, h1.dp hk rx, h2.dp hk ry, s1, s2, by
      rw [e]
      exact k⟩⟩
theorem ev_cmpR {op : CmpOp} {r : Bool} (ha : EV F a Γ W (.ok d1) W1) (hb : EV F b Γ W1 (.ok d2) W2) (h : CmpR W2 op d1 d2 r) (hm : behindInMarks op b = false := by first | exact nobehind _ (by decide) (by decide) | rfl) : EV F (.Compare a [op] [b] pos) Γ W (.ok (.bl r)) W2 := by
  obtain ⟨t, h1, h2⟩ := cmp_run (F := F) h
  exact ev_cmp h1 hm ha hb fun G H x y Q hk rx ry k => h2 G H x y Q hk rx ry (k _ G H (.refl hk) (.bl r))
/-- a chain of two -/
theorem ev_chain {op op' : CmpOp} {r r' : Bool} (ha : EV F a Γ W (.ok d1) W1) (hb : EV F b Γ W1 (.ok d2) W2) (h : CmpR W2 op d1 d2 r) (hc : r = true → EV F c Γ W2 (.ok d3) W2) (h' : r = true → CmpR W2 op' d2 d3 r') (hm : lastMarks [op, op'] [b, c] = false := by rfl) :
    EV F (.Compare a [op, op'] [b, c] pos) Γ W (.ok (.bl (r && r'))) W2 := by
  obtain ⟨t, h1, h2⟩ := cmp_run (F := F) h
  cases r with
  | true =>
    obtain ⟨t', h1', h2'⟩ := cmp_run (F := F) (h' rfl)
    refine fun G H σ Q sl hk k => ⟨tChain t t' (cE F a) (cE F b) (cE F c), fun X hX => pe_chain (h1 X hX) (h1' X hX) (cE_pe hX) (cE_pe hX) (cE_pe hX) hm, ?_⟩
    refine ha G H σ _ sl hk fun x G1 H1 s1 r1 => hb G1 H1 σ _ (sl.mono s1.le) s1.hk fun y G2 H2 s2 r2 => ?_
    refine h2 G2 H2 x y _ s2.hk (r1.mono s2.le) r2 ⟨true, rfl, ?_⟩
    rw [if_pos rfl]
    refine hc rfl G2 H2 σ _ (sl.mono (s1.le.trans s2.le)) s2.hk fun z G3 H3 s3 r3 => ?_
    exact h2' G3 H3 y z _ s3.hk (r2.mono s3.le) r3 (k _ G3 H3 ((s1.trans s2).trans s3) (.bl _))
  | false =>
    refine fun G H σ Q sl hk k => ⟨tChain t (fun _ _ _ _ => False) (cE F a) (cE F b) (cE F c), fun X hX => pe_chain (h1 X hX) (fun _ _ _ _ _ _ _ _ _ _ _ _ z => z.elim) (cE_pe hX) (cE_pe hX) (cE_pe hX) hm, ?_⟩
    refine ha G H σ _ sl hk fun x G1 H1 s1 r1 => hb G1 H1 σ _ (sl.mono s1.le) s1.hk fun y G2 H2 s2 r2 => ?_
    refine h2 G2 H2 x y _ s2.hk (r1.mono s2.le) r2 ⟨false, rfl, ?_⟩
    rw [if_neg Bool.false_ne_true]
    exact k _ G2 H2 (s1.trans s2) (.bl _)
end
end Sh
set_option Elab.async false
set_option linter.all false
set_option maxRecDepth 100000
set_option maxHeartbeats 1000000
set_option autoImplicit false
/-! ShD: tests, truth, displays, subscripts, slices, calls of built-in functions and methods. -/
namespace Sh
open PySem PySem.Spec PyProof.Rows L2
section
variable {F : CF} {Γ : Ga} {W W1 W2 W3 : OW} {pos : Pos} {a b c e : Expr} {d d1 d2 d3 : D} {o : Out} {oT : OutT}

/-! ### tests -/
theorem et_val {r : Bool} (h : EV F e Γ W (.ok (.bl r)) W1) (he : ∀ env whole, PySem.isTrue e env whole = (do let v ← whole; standAt (Expr.pos e); holding [v] (truthy v)) := by intro _ _; rfl) : ET F e Γ W (.ok r) W1 :=
  fun G H σ Q sl hk k => ⟨tB (cE F e), fun X hX => pt_val (cE_pe hX) (he _), h G H σ _ sl hk fun v G1 H1 s1 r1 => ⟨r, r1.bl_inv, k G1 H1 s1⟩⟩
theorem et_valE {cl : Addr} (h : EV F e Γ W (.er cl) W1) (he : ∀ env whole, PySem.isTrue e env whole = (do let v ← whole; standAt (Expr.pos e); holding [v] (truthy v)) := by intro _ _; rfl) : ET F e Γ W (.er cl) W1 :=
  fun G H σ Q sl hk k => ⟨tB (cE F e), fun X hX => pt_val (cE_pe hX) (he _), h G H σ _ sl hk k⟩
theorem et_cmpR {op : CmpOp} {r : Bool} (ha : EV F a Γ W (.ok d1) W1) (hb : EV F b Γ W1 (.ok d2) W2) (h : CmpR W2 op d1 d2 r) (hm : behindInMarks op b = false := by first | exact nobehind _ (by decide) (by decide) | rfl) : ET F (.Compare a [op] [b] pos) Γ W (.ok r) W2 := by
  obtain ⟨t, h1, h2⟩ := cmp_run (F := F) h
  exact fun G H σ Q sl hk k => ⟨tTest (tOp t (cE F a) (cE F b)), fun X hX => pt_cmpR (h1 X hX) (cE_pe hX) (cE_pe hX) hm,
    ha G H σ _ sl hk fun x G1 H1 s1 r1 => hb G1 H1 σ _ (sl.mono s1.le) s1.hk fun y G2 H2 s2 r2 => h2 G2 H2 x y _ s2.hk (r1.mono s2.le) r2 ⟨r, rfl, k G2 H2 (s1.trans s2)⟩⟩
theorem et_cmpE {op : CmpOp} {cl : Addr} (ha : EV F a Γ W (.er cl) W1) (hm : behindInMarks op b = false := by first | exact nobehind _ (by decide) (by decide) | rfl) : ET F (.Compare a [op] [b] pos) Γ W (.er cl) W1 :=
  fun G H σ Q sl hk k => ⟨tTest (tOp (fun _ _ _ _ => False) (cE F a) (cE F b)), fun X hX => pt_cmpR (fun _ _ _ _ _ _ _ _ _ _ _ _ z => z.elim) (cE_pe hX) (cE_pe hX) hm, ha G H σ _ sl hk k⟩
theorem et_chain {op op' : CmpOp} {r r' : Bool} (ha : EV F a Γ W (.ok d1) W1) (hb : EV F b Γ W1 (.ok d2) W2) (h : CmpR W2 op d1 d2 r) (hc : r = true → EV F c Γ W2 (.ok d3) W2) (h' : r = true → CmpR W2 op' d2 d3 r') (hm : lastMarks [op, op'] [b, c] = false := by rfl) :
    ET F (.Compare a [op, op'] [b, c] pos) Γ W (.ok (r && r')) W2 := by
  obtain ⟨t, h1, h2⟩ := cmp_run (F := F) h
  cases r with
  | true =>
    obtain ⟨t', h1', h2'⟩ := cmp_run (F := F) (h' rfl)
    refine fun G H σ Q sl hk k => ⟨tTest (tChain t t' (cE F a) (cE F b) (cE F c)), fun X hX => pt_chain (h1 X hX) (h1' X hX) (cE_pe hX) (cE_pe hX) (cE_pe hX) hm, ?_⟩
    refine ha G H σ _ sl hk fun x G1 H1 s1 r1 => hb G1 H1 σ _ (sl.mono s1.le) s1.hk fun y G2 H2 s2 r2 => ?_
    refine h2 G2 H2 x y _ s2.hk (r1.mono s2.le) r2 ⟨true, rfl, ?_⟩
    rw [if_pos rfl]
    refine hc rfl G2 H2 σ _ (sl.mono (s1.le.trans s2.le)) s2.hk fun z G3 H3 s3 r3 => ?_
    exact h2' G3 H3 y z _ s3.hk (r2.mono s3.le) r3 ⟨r', rfl, k G3 H3 ((s1.trans s2).trans s3)⟩
  | false =>
    refine fun G H σ Q sl hk k => ⟨tTest (tChain t (fun _ _ _ _ => False) (cE F a) (cE F b) (cE F c)), fun X hX => pt_chain (h1 X hX) (fun _ _ _ _ _ _ _ _ _ _ _ _ z => z.elim) (cE_pe hX) (cE_pe hX) (cE_pe hX) hm, ?_⟩
    refine ha G H σ _ sl hk fun x G1 H1 s1 r1 => hb G1 H1 σ _ (sl.mono s1.le) s1.hk fun y G2 H2 s2 r2 => ?_
    refine h2 G2 H2 x y _ s2.hk (r1.mono s2.le) r2 ⟨false, rfl, ?_⟩
    rw [if_neg Bool.false_ne_true]
    exact ⟨false, rfl, k G2 H2 (s1.trans s2)⟩
theorem et_not {r : Bool} (h : ET F a Γ W (.ok r) W1) : ET F (.UnaryOp .Not a pos) Γ W (.ok (!r)) W1 :=
  fun G H σ Q sl hk k => ⟨tNot (cT F a), fun X hX => pt_not (cT_pt hX), h G H σ _ sl hk fun G1 H1 s1 => k G1 H1 s1⟩
theorem et_notE {cl : Addr} (h : ET F a Γ W (.er cl) W1) : ET F (.UnaryOp .Not a pos) Γ W (.er cl) W1 :=
  fun G H σ Q sl hk k => ⟨tNot (cT F a), fun X hX => pt_not (cT_pt hX), h G H σ _ sl hk k⟩
theorem et_w (h : EW F e Γ W oT W1) : ET F e Γ W oT W1 := fun G H σ Q sl hk k => by
  obtain ⟨t, ht, q⟩ := h G H σ Q sl hk k
  exact ⟨t, fun X hX => (ht X hX).pt, q⟩
/-- the last of an and, of an or -/
theorem ew_and1 (h : ET F a Γ W oT W1) : EW F (.BoolOp .And [a] pos) Γ W oT W1 := fun G H σ Q sl hk k => ⟨cT F a, fun X hX => pw_and1 (cT_pt hX), h G H σ Q sl hk k⟩
theorem ew_or1 (h : ET F a Γ W oT W1) : EW F (.BoolOp .Or [a] pos) Γ W oT W1 := fun G H σ Q sl hk k => ⟨cT F a, fun X hX => pw_or1 (cT_pt hX), h G H σ Q sl hk k⟩
theorem ew_andT {rest : List Expr} (h : ET F a Γ W (.ok true) W1) (t : EW F (.BoolOp .And (b :: rest) pos) Γ W1 oT W2) : EW F (.BoolOp .And (a :: b :: rest) pos) Γ W oT W2 :=
  fun G H σ Q sl hk k => ⟨tAnd (cT F a) (cW F (.BoolOp .And (b :: rest) pos)), fun X hX => pw_and (cT_pt hX) (cW_pw hX), h G H σ _ sl hk fun G1 H1 s1 => by
    rw [if_pos rfl]
    exact t G1 H1 σ Q (sl.mono s1.le) s1.hk (k.step s1)⟩
theorem ew_andF {rest : List Expr} (h : ET F a Γ W (.ok false) W1) : EW F (.BoolOp .And (a :: b :: rest) pos) Γ W (.ok false) W1 :=
  fun G H σ Q sl hk k => ⟨tAnd (cT F a) (cW F (.BoolOp .And (b :: rest) pos)), fun X hX => pw_and (cT_pt hX) (cW_pw hX), h G H σ _ sl hk fun G1 H1 s1 => by
    rw [if_neg Bool.false_ne_true]
    exact k G1 H1 s1⟩
theorem ew_orF {rest : List Expr} (h : ET F a Γ W (.ok false) W1) (t : EW F (.BoolOp .Or (b :: rest) pos) Γ W1 oT W2) : EW F (.BoolOp .Or (a :: b :: rest) pos) Γ W oT W2 :=
  fun G H σ Q sl hk k => ⟨tOr (cT F a) (cW F (.BoolOp .Or (b :: rest) pos)), fun X hX => pw_or (cT_pt hX) (cW_pw hX), h G H σ _ sl hk fun G1 H1 s1 => by
    rw [if_neg Bool.false_ne_true]
    exact t G1 H1 σ Q (sl.mono s1.le) s1.hk (k.step s1)⟩
theorem ew_orT {rest : List Expr} (h : ET F a Γ W (.ok true) W1) : EW F (.BoolOp .Or (a :: b :: rest) pos) Γ W (.ok true) W1 :=
  fun G H σ Q sl hk k => ⟨tOr (cT F a) (cW F (.BoolOp .Or (b :: rest) pos)), fun X hX => pw_or (cT_pt hX) (cW_pw hX), h G H σ _ sl hk fun G1 H1 s1 => by
    rw [if_pos rfl]
    exact k G1 H1 s1⟩
/-- .. where nothing changes -/
theorem ew_and {rest : List Expr} {r r' : Bool} (h : ET F a Γ W (.ok r) W) (t : r = true → EW F (.BoolOp .And (b :: rest) pos) Γ W (.ok r') W) : EW F (.BoolOp .And (a :: b :: rest) pos) Γ W (.ok (r && r')) W := by
  cases r with
  | true => exact ew_andT h (t rfl)
  | false => exact ew_andF h
theorem ew_or {rest : List Expr} {r r' : Bool} (h : ET F a Γ W (.ok r) W) (t : r = false → EW F (.BoolOp .Or (b :: rest) pos) Γ W (.ok r') W) : EW F (.BoolOp .Or (a :: b :: rest) pos) Γ W (.ok (r || r')) W := by
  cases r with
  | true => exact ew_orT h
  | false => exact ew_orF h (t rfl)

/-! ### and, or, not as values -/
theorem ev_one {op : BoolOp} (h : EV F a Γ W o W1) : EV F (.BoolOp op [a] pos) Γ W o W1 := fun G H σ Q sl hk k => ⟨cE F a, fun X hX => pe_one (cE_pe hX), h G H σ Q sl hk k⟩
theorem ev_andT {rest : List Expr} (h : EV F a Γ W (.ok (.bl true)) W1) (t : EV F (.BoolOp .And (b :: rest) pos) Γ W1 o W2) : EV F (.BoolOp .And (a :: b :: rest) pos) Γ W o W2 :=
  fun G H σ Q sl hk k => ⟨tAndV (cE F a) (cE F (.BoolOp .And (b :: rest) pos)), fun X hX => pe_and (cE_pe hX) (cE_pe hX), h G H σ _ sl hk fun v G1 H1 s1 r1 => ⟨true, r1.bl_inv, by
    rw [if_pos rfl]
    exact t G1 H1 σ Q (sl.mono s1.le) s1.hk (k.step s1)⟩⟩
theorem ev_andF {rest : List Expr} (h : EV F a Γ W (.ok (.bl false)) W1) : EV F (.BoolOp .And (a :: b :: rest) pos) Γ W (.ok (.bl false)) W1 :=
  fun G H σ Q sl hk k => ⟨tAndV (cE F a) (cE F (.BoolOp .And (b :: rest) pos)), fun X hX => pe_and (cE_pe hX) (cE_pe hX), h G H σ _ sl hk fun v G1 H1 s1 r1 => ⟨false, r1.bl_inv, by
    rw [if_neg Bool.false_ne_true]
    exact k _ G1 H1 s1 (.bl false)⟩⟩
theorem ev_orF {rest : List Expr} (h : EV F a Γ W (.ok (.bl false)) W1) (t : EV F (.BoolOp .Or (b :: rest) pos) Γ W1 o W2) : EV F (.BoolOp .Or (a :: b :: rest) pos) Γ W o W2 :=
  fun G H σ Q sl hk k => ⟨tOrV (cE F a) (cE F (.BoolOp .Or (b :: rest) pos)), fun X hX => pe_or (cE_pe hX) (cE_pe hX), h G H σ _ sl hk fun v G1 H1 s1 r1 => ⟨false, r1.bl_inv, by
    rw [if_neg Bool.false_ne_true]
    exact t G1 H1 σ Q (sl.mono s1.le) s1.hk (k.step s1)⟩⟩
theorem ev_orT {rest : List Expr} (h : EV F a Γ W (.ok (.bl true)) W1) : EV F (.BoolOp .Or (a :: b :: rest) pos) Γ W (.ok (.bl true)) W1 :=
  fun G H σ Q sl hk k => ⟨tOrV (cE F a) (cE F (.BoolOp .Or (b :: rest) pos)), fun X hX => pe_or (cE_pe hX) (cE_pe hX), h G H σ _ sl hk fun v G1 H1 s1 r1 => ⟨true, r1.bl_inv, by
    rw [if_pos rfl]
    exact k _ G1 H1 s1 (.bl true)⟩⟩
theorem ev_and {rest : List Expr} {r r' : Bool} (h : EV F a Γ W (.ok (.bl r)) W) (t : r = true → EV F (.BoolOp .And (b :: rest) pos) Γ W (.ok (.bl r')) W) : EV F (.BoolOp .And (a :: b :: rest) pos) Γ W (.ok (.bl (r && r'))) W := by
  cases r with
  | true => exact ev_andT h (t rfl)
  | false => exact ev_andF h
theorem ev_or {rest : List Expr} {r r' : Bool} (h : EV F a Γ W (.ok (.bl r)) W) (t : r = false → EV F (.BoolOp .Or (b :: rest) pos) Γ W (.ok (.bl r')) W) : EV F (.BoolOp .Or (a :: b :: rest) pos) Γ W (.ok (.bl (r || r'))) W := by
  cases r with
  | true => exact ev_orT h
  | false => exact ev_orF h (t rfl)
theorem ev_not {r : Bool} (h : EV F a Γ W (.ok (.bl r)) W1) : EV F (.UnaryOp .Not a pos) Γ W (.ok (.bl (!r))) W1 :=
  fun G H σ Q sl hk k => ⟨tNotV (cE F a), fun X hX => pe_not (cE_pe hX), h G H σ _ sl hk fun v G1 H1 s1 r1 => ⟨r, r1.bl_inv, k _ G1 H1 s1 (.bl _)⟩⟩
theorem ev_neg {i : Int} (h : EV F a Γ W (.ok (.int i)) W1) : EV F (.UnaryOp .USub a pos) Γ W (.ok (.int (-i))) W1 :=
  fun G H σ Q sl hk k => ⟨tUn (rU fun i => .int (-i)) (cE F a), fun X hX => pe_un un_neg (cE_pe hX), h G H σ _ sl hk fun v G1 H1 s1 r1 => ⟨i, r1.int_inv, k _ G1 H1 s1 (.int _)⟩⟩
theorem ev_ifT (h : ET F c Γ W (.ok true) W1) (t : EV F a Γ W1 o W2) : EV F (.IfExp c a b pos) Γ W o W2 :=
  fun G H σ Q sl hk k => ⟨tIf (cT F c) (cE F a) (cE F b), fun X hX => pe_ifExp (cT_pt hX) (cE_pe hX) (cE_pe hX), h G H σ _ sl hk fun G1 H1 s1 => by
    rw [if_pos rfl]
    exact t G1 H1 σ Q (sl.mono s1.le) s1.hk (k.step s1)⟩
theorem ev_ifF (h : ET F c Γ W (.ok false) W1) (t : EV F b Γ W1 o W2) : EV F (.IfExp c a b pos) Γ W o W2 :=
  fun G H σ Q sl hk k => ⟨tIf (cT F c) (cE F a) (cE F b), fun X hX => pe_ifExp (cT_pt hX) (cE_pe hX) (cE_pe hX), h G H σ _ sl hk fun G1 H1 s1 => by
    rw [if_neg Bool.false_ne_true]
    exact t G1 H1 σ Q (sl.mono s1.le) s1.hk (k.step s1)⟩
theorem ev_if {r : Bool} (h : ET F c Γ W (.ok r) W1) (h1 : r = true → EV F a Γ W1 o W2) (h2 : r = false → EV F b Γ W1 o W2) : EV F (.IfExp c a b pos) Γ W o W2 := by
  cases r with
  | true => exact ev_ifT h (h1 rfl)
  | false => exact ev_ifF h (h2 rfl)

/-! ### new lists -/
/-- e gives a new list of ds -/
def EN (F : CF) (e : Expr) (Γ : Ga) (W : OW) (ds : List D) (W' : OW) : Prop := ∀ (G H : Hp) (σ : L2.St) (Q : VK), Slots F.K G Γ σ → Hk F.K F.T G W H →
  (∀ p G' H', H p = none → Step F.K F.T G W H G' ((p, .lst ds) :: W') H' → Q (.ref p) H') → cE F e σ H Q
theorem EN.ev {ds : List D} (h : EN F e Γ W ds W1) : EV F e Γ W (.ok (.lst ds)) W1 := fun G H σ Q sl hk k => h G H σ Q sl hk fun p G' H' hp s => by
  obtain ⟨o, e1, r, s2⟩ := s.hk.freeze (i := 0) rfl
  obtain ⟨vs, rfl, r⟩ := r.lst_inv
  exact k _ _ _ (s.trans s2) (.lst_mk upd_same (r.mono s2.le))
theorem ev_tup {es : List Expr} {n : Nat} {ds : List D} (h : EA F es Γ W (.ok ds) W1) (hz : ds.length ≤ 1000) : EV F (.Tuple es n pos) Γ W (.ok (.tup ds)) W1 :=
  fun G H σ Q sl hk k => ⟨StepS.tTupF (cA F es), fun X hX => StepS.pe_tupF (cA_pa hX), h G H σ _ sl hk fun vs G1 H1 s1 r1 => ⟨by rw [r1.1]; exact Nat.le_of_lt (small1000 hz), (k.step s1).newT s1.hk r1⟩⟩
theorem ev_tupE {es : List Expr} {n : Nat} {cl : Addr} (h : EA F es Γ W (.er cl) W1) : EV F (.Tuple es n pos) Γ W (.er cl) W1 :=
  fun G H σ Q sl hk k => ⟨StepS.tTupF (cA F es), fun X hX => StepS.pe_tupF (cA_pa hX), h G H σ _ sl hk k⟩
theorem en_lst {es : List Expr} {ds : List D} (h : EA F es Γ W (.ok ds) W1) (hz : ds.length ≤ 1000) : EN F (.List es pos) Γ W ds W1 :=
  fun G H σ Q sl hk k => ⟨tLst (cA F es), fun X hX => pe_lst (cA_pa hX), h G H σ _ sl hk fun vs G1 H1 s1 r1 => ⟨by rw [r1.1]; exact Nat.le_of_lt (small1000 hz), fun p hp => k p G1 _ (s1.back hp) (s1.trans (s1.hk.allocO hp r1))⟩⟩
theorem en_cat {xs ys : List D} (ha : EV F a Γ W (.ok d1) W1) (hb : EV F b Γ W1 (.ok d2) W2) (h1 : AsL W2 d1 xs) (h2 : AsL W2 d2 ys) (h : xs.length + ys.length ≤ sizeLine) : EN F (.BinOp a .Add b pos) Γ W (xs ++ ys) W2 :=
  fun G H σ Q sl hk k => ⟨tOp rCat (cE F a) (cE F b), fun X hX => pe_op op_cat (cE_pe hX) (cE_pe hX), ha G H σ _ sl hk fun x G1 H1 s1 r1 => hb G1 H1 σ _ (sl.mono s1.le) s1.hk fun y G2 H2 s2 r2 => by
    obtain ⟨p, vs, rfl, e1, q1⟩ := h1.at s2.hk (r1.mono s2.le)
    obtain ⟨q, ws, rfl, e2, q2⟩ := h2.at s2.hk r2
    exact ⟨p, q, vs, ws, rfl, rfl, e1, e2, by rw [q1.1, q2.1]; exact h, fun z hz => k z G2 _ (s1.back (s2.back hz)) ((s1.trans s2).trans (s2.hk.allocO hz (q1.append q2)))⟩⟩
theorem en_rep {xs : List D} {i : Int} (ha : EV F a Γ W (.ok d1) W1) (hb : EV F b Γ W1 (.ok (.int i)) W2) (h1 : AsL W2 d1 xs) (h : -(2 ^ 63) ≤ i ∧ i < 2 ^ 63 ∧ xs.length * i.toNat ≤ sizeLine) : EN F (.BinOp a .Mult b pos) Γ W (List.replicate i.toNat xs).flatten W2 :=
  fun G H σ Q sl hk k => ⟨tOp rRep (cE F a) (cE F b), fun X hX => pe_op op_rep (cE_pe hX) (cE_pe hX), ha G H σ _ sl hk fun x G1 H1 s1 r1 => hb G1 H1 σ _ (sl.mono s1.le) s1.hk fun y G2 H2 s2 r2 => by
    obtain ⟨p, vs, rfl, e1, q1⟩ := h1.at s2.hk (r1.mono s2.le)
    exact ⟨p, i, vs, rfl, r2.int_inv, e1, h.1, h.2.1, by rw [q1.1]; exact h.2.2, fun z hz => k z G2 _ (s1.back (s2.back hz)) ((s1.trans s2).trans (s2.hk.allocO hz (q1.rep _)))⟩⟩

/-! ### subscripts -/
theorem Rps.atI {K : PySem.W.Frag} {G : Hp} {vs : List V} {ds : List D} (h : Rps K G vs ds) {i : Int} {x : D} (e : L2.atI ds i = some x) : ∃ v, L2.atI vs i = some v ∧ Rp K G v x := by
  unfold L2.atI at e ⊢
  rw [h.1]
  cases q : ixN ds.length i with
  | none =>
    rw [q] at e
    cases e
  | some j =>
    rw [q] at e
    exact h.get e
/-- a key as data -/
def kD : Key → D
  | .inl i => .int i
  | .inr x => .str x
def valD {κ : Type} [DecidableEq κ] (kvs : List (κ × D)) (k : κ) : Option D := (kvs.find? fun kv => decide (kv.1 = k)).map (·.2)
theorem Rpk.nil {κ : Type} {K : PySem.W.Frag} {G : Hp} : Rpk (κ := κ) K G [] [] := ⟨rfl, .nil⟩
theorem Rpk.inv {κ : Type} {K : PySem.W.Frag} {G : Hp} {kvs : List (κ × V)} {k : κ} {d : D} {ds : List (κ × D)} (h : Rpk K G kvs ((k, d) :: ds)) : ∃ v vs, kvs = (k, v) :: vs ∧ Rp K G v d ∧ Rpk K G vs ds := by
  cases kvs with
  | nil => have := h.1; simp at this
  | cons p vs =>
    obtain ⟨k', v⟩ := p
    obtain ⟨h1, h2⟩ := h
    rw [List.map_cons, List.map_cons] at h1 h2
    injection h1 with e1 e2
    have e1 : k' = k := e1
    subst e1
    exact ⟨v, vs, rfl, h2.head, e2, h2.tail⟩
theorem Rpk.inv0 {κ : Type} {K : PySem.W.Frag} {G : Hp} {kvs : List (κ × V)} (h : Rpk K G kvs []) : kvs = [] := by
  cases kvs with
  | nil => rfl
  | cons p vs => have := h.1; simp at this
theorem Rpk.val {K : PySem.W.Frag} {G : Hp} {κ : Type} [DecidableEq κ] (k : κ) : ∀ {ds : List (κ × D)} {kvs : List (κ × V)}, Rpk K G kvs ds → (valD ds k = none ∧ valV kvs k = none) ∨ ∃ d v, valD ds k = some d ∧ valV kvs k = some v ∧ Rp K G v d
  | [], kvs, h => by
    rw [h.inv0]
    exact .inl ⟨rfl, rfl⟩
  | (j, d) :: ds, kvs, h => by
    obtain ⟨v, vs, rfl, r, t⟩ := h.inv
    by_cases e : j = k
    · refine .inr ⟨d, v, ?_, ?_, r⟩
      · simp [valD, e]
      · simp [valV, e]
    · have ih := Rpk.val k t
      have e1 : valD ((j, d) :: ds) k = valD ds k := by simp [valD, e]
      have e2 : valV ((j, v) :: vs) k = valV vs k := by simp [valV, e]
      rw [e1, e2]
      exact ih
theorem Rp.dct_inv {K : PySem.W.Frag} {G : Hp} {v : V} {ds : List (Key × D)} (h : Rp K G v (.dct ds)) : ∃ a o kvs, v = .ref a ∧ G a = some (.frz o (.dK kvs)) ∧ Rpk K G kvs ds := by
  cases h with
  | dct h1 h2 h3 =>
    refine ⟨_, _, _, rfl, h1, h2, ?_, h3⟩
    have := congrArg List.length h2
    rw [List.length_map, List.length_map] at this
    rw [List.length_map, List.length_map, this]
/-- a dict, frozen or owned -/
def AsK (W : OW) (d : D) (ds : List (Key × D)) : Prop := d = .dct ds ∨ ∃ (a : Addr) (i : Nat), d = .ptr a ∧ W[i]? = some (a, .dK ds)
theorem AsK.at {K : PySem.W.Frag} {T : Tb} {G H : Hp} {W : OW} {d : D} {ds : List (Key × D)} {v : V} (h : AsK W d ds) (hk : Hk K T G W H) (r : Rp K G v d) : ∃ a kvs, v = .ref a ∧ Rd H a (.dK kvs) ∧ Rpk K G kvs ds := by
  rcases h with rfl | ⟨a, i, rfl, hi⟩
  · obtain ⟨a, o, vs, rfl, e, q⟩ := r.dct_inv
    exact ⟨a, vs, rfl, .inr ⟨o, hk.sub a _ e⟩, q⟩
  · cases r
    obtain ⟨_, o, e, q⟩ := hk.own _ (List.mem_of_getElem? hi)
    obtain ⟨vs, rfl, q⟩ := q.dK_inv
    exact ⟨a, vs, rfl, .inl e, q⟩
theorem Rp.key_inv {K : PySem.W.Frag} {G : Hp} {v : V} {k : Key} (r : Rp K G v (kD k)) : v = kV k := by
  cases k with
  | inl i => exact r.int_inv
  | inr x => exact r.str_inv
inductive IxD (W : OW) : D → D → D → Prop
  | lst {d : D} {ds : List D} {i : Int} {x : D} (h : AsL W d ds) (e : L2.atI ds i = some x) : IxD W d (.int i) x
  | tup {ds : List D} {i : Int} {x : D} (e : L2.atI ds i = some x) : IxD W (.tup ds) (.int i) x
  | str {z : Str} {i : Int} {c : Nat} (hz : z.length ≤ sizeLine) (e : L2.atI z.cps.toList i = some c) : IxD W (.str z) (.int i) (.str ⟨#[c]⟩)
theorem ev_ix (ha : EV F a Γ W (.ok d1) W1) (hb : EV F b Γ W1 (.ok d2) W2) (h : IxD W2 d1 d2 d) (hs : PlainIx b := by exact fun _ _ => rfl) : EV F (.Subscript a b pos) Γ W (.ok d) W2 := by
  cases h with
  | lst h e => exact fun G H σ Q sl hk k => ⟨tOp (rIxL F.K) (cE F a) (cE F b), fun X hX => pe_ix (hX.K ▸ ix_list) (cE_pe hX) (cE_pe hX) hs,
      ha G H σ _ sl hk fun x G1 H1 s1 r1 => hb G1 H1 σ _ (sl.mono s1.le) s1.hk fun y G2 H2 s2 r2 => by
        obtain ⟨p, vs, rfl, e1, q1⟩ := h.at s2.hk (r1.mono s2.le)
        obtain ⟨v, e2, r3⟩ := q1.atI e
        exact ⟨p, vs, _, v, rfl, r2.int_inv, SqL.of e1, e2, k _ G2 H2 (s1.trans s2) r3⟩⟩
  | tup e => exact fun G H σ Q sl hk k => ⟨tOp (rIxT F.K) (cE F a) (cE F b), fun X hX => pe_ix (hX.K ▸ ix_tup) (cE_pe hX) (cE_pe hX) hs,
      ha G H σ _ sl hk fun x G1 H1 s1 r1 => hb G1 H1 σ _ (sl.mono s1.le) s1.hk fun y G2 H2 s2 r2 => by
        obtain ⟨p, vs, rfl, e1, q1⟩ := (r1.mono s2.le).tup_inv
        obtain ⟨v, e2, r3⟩ := q1.atI e
        exact ⟨p, vs, _, v, rfl, r2.int_inv, sqt_up s2.hk e1, e2, k _ G2 H2 (s1.trans s2) r3⟩⟩
  | str hz e => exact fun G H σ Q sl hk k => ⟨tOp rIxS (cE F a) (cE F b), fun X hX => pe_ix ix_str (cE_pe hX) (cE_pe hX) hs,
      ha G H σ _ sl hk fun x G1 H1 s1 r1 => hb G1 H1 σ _ (sl.mono s1.le) s1.hk fun y G2 H2 s2 r2 =>
        ⟨_, _, _, r1.str_inv, r2.int_inv, hz, e, k _ G2 H2 (s1.trans s2) (.str _)⟩⟩
theorem ev_dget {ds : List (Key × D)} {q : Key} (ha : EV F a Γ W (.ok d1) W1) (hb : EV F b Γ W1 (.ok (kD q)) W2) (h : AsK W2 d1 ds) (e : valD ds q = some d) (hs : NoSl b := by exact fun _ _ => rfl) : EV F (.Subscript a b pos) Γ W (.ok d) W2 :=
  fun G H σ Q sl hk k => ⟨tDGet (cE F a) (cE F b), fun X hX => pe_dget (by have := hX.un; omega) (cE_pe hX) (cE_pe hX) hs,
    ha G H σ _ sl hk fun x G1 H1 s1 r1 => hb G1 H1 σ _ (sl.mono s1.le) s1.hk fun y G2 H2 s2 r2 => by
      obtain ⟨p, kvs, rfl, e1, q1⟩ := h.at s2.hk (r1.mono s2.le)
      rcases q1.val q with ⟨z, _⟩ | ⟨d', v, z1, z2, r⟩
      · rw [e] at z
        cases z
      · rw [e] at z1
        cases z1
        refine ⟨p, v, rfl, ?_, k _ G2 H2 (s1.trans s2) r⟩
        rw [r2.key_inv, ← z2]
        exact .inl ⟨kvs, q, e1, rfl, rfl⟩⟩

/-! ### slices -/
def cO (F : CF) (e : Option Expr) : TO := fun σ H Q => ∃ t : TO, (∀ X, Sat F X → PO X e t) ∧ t σ H Q
theorem cO_po {X : Cx} {e : Option Expr} (h : Sat F X) : PO X e (cO F e) := ⟨fun pins s σ H Q I ⟨_, ht, q⟩ => (ht X h).run pins s σ H Q I q⟩
def EO (F : CF) (e : Option Expr) (Γ : Ga) (W : OW) (i : Option Int) (W' : OW) : Prop := ∀ (G H : Hp) (σ : L2.St) (Q : Option Int → Hp → Prop), Slots F.K G Γ σ → Hk F.K F.T G W H → (∀ G' H', Step F.K F.T G W H G' W' H' → Q i H') → cO F e σ H Q
theorem eo_none : EO F none Γ W none W := fun G H σ Q sl hk k => ⟨tNoPart, fun X hX => po_none, k G H (.refl hk)⟩
theorem eo_some {i : Int} (h : EV F e Γ W (.ok (.int i)) W1) : EO F (some e) Γ W (some i) W1 :=
  fun G H σ Q sl hk k => ⟨tPart (cE F e), fun X hX => po_some (cE_pe hX), h G H σ _ sl hk fun v G1 H1 s1 r1 => ⟨i, r1.int_inv, k G1 H1 s1⟩⟩
def cutD {α : Type} (xs : List α) (lo hi : Option Int) : List α := (xs.drop (HT.sIx xs.length 0 lo)).take (HT.sIx xs.length xs.length hi - HT.sIx xs.length 0 lo)
theorem Rps.cut {K : PySem.W.Frag} {G : Hp} {vs : List V} {ds : List D} (h : Rps K G vs ds) (lo hi : Option Int) : Rps K G (cutV vs lo hi) (cutD ds lo hi) := by
  unfold cutV cutD
  rw [h.1]
  exact (h.drop _).take _
theorem Rps.pick {K : PySem.W.Frag} {G : Hp} {vs : List V} {ds : List D} (h : Rps K G vs ds) : ∀ l : List Nat, Rps K G (l.filterMap (vs[·]?)) (l.filterMap (ds[·]?))
  | [] => .nil
  | i :: l => by
    rw [List.filterMap_cons, List.filterMap_cons]
    cases e : ds[i]? with
    | none =>
      have : vs[i]? = none := by
        rw [List.getElem?_eq_none_iff] at e ⊢
        rw [h.1]
        exact e
      rw [this]
      exact h.pick l
    | some x =>
      obtain ⟨v, e2, q⟩ := h.get e
      rw [e2]
      exact (h.pick l).cons q
theorem Rps.pickL {K : PySem.W.Frag} {G : Hp} {vs : List V} {ds : List D} (h : Rps K G vs ds) (lo hi st : Option Int) : Rps K G (StepS.pickL vs lo hi st) (StepS.pickL ds lo hi st) := by
  unfold StepS.pickL
  rw [h.1]
  exact h.pick _
theorem Rps.pickT {K : PySem.W.Frag} {G : Hp} {vs : List V} {ds : List D} (h : Rps K G vs ds) (lo hi : Option Int) (c : Int) : Rps K G (StepS.pickT vs lo hi c) (StepS.pickT ds lo hi c) := by
  unfold StepS.pickT
  rw [h.1]
  have := h.pick ((List.range (Builtin.Slice.slicePlaces (Builtin.Slice.sliceAdjust lo hi c ds.length).1 (Builtin.Slice.sliceAdjust lo hi c ds.length).2 c)).map fun (m : Nat) => ((Builtin.Slice.sliceAdjust lo hi c ds.length).1 + (m : Int) * c).toNat)
  rw [StepS.range_map, StepS.range_map] at this
  exact this
section
variable {lo hi : Option Expr} {l h' : Option Int} {st : Expr} {p2 : Pos} {W4 : OW}
theorem en_slice {ds : List D} (he : EV F e Γ W (.ok d) W1) (hl : EO F lo Γ W1 l W2) (hh : EO F hi Γ W2 h' W3) (hd : AsL W3 d ds) : EN F (.Subscript e (.Slice lo hi none p2) pos) Γ W (cutD ds l h') W3 :=
  fun G H σ Q sl hk k => ⟨tSl (rSlL F.K) (cE F e) (cO F lo) (cO F hi), fun X hX => pe_slice (hX.K ▸ sl_list) (cE_pe hX) (cO_po hX) (cO_po hX),
    he G H σ _ sl hk fun x G1 H1 s1 r1 => hl G1 H1 σ _ (sl.mono s1.le) s1.hk fun G2 H2 s2 => hh G2 H2 σ _ (sl.mono (s1.le.trans s2.le)) s2.hk fun G3 H3 s3 => by
      obtain ⟨p, vs, rfl, e1, q1⟩ := hd.at s3.hk (r1.mono (s2.le.trans s3.le))
      exact ⟨p, vs, rfl, SqL.of e1, fun z hz => k z G3 _ (s1.back (s2.back (s3.back hz))) (((s1.trans s2).trans s3).trans (s3.hk.allocO hz (q1.cut _ _)))⟩⟩
theorem ev_sliceT {ds : List D} (he : EV F e Γ W (.ok (.tup ds)) W1) (hl : EO F lo Γ W1 l W2) (hh : EO F hi Γ W2 h' W3) : EV F (.Subscript e (.Slice lo hi none p2) pos) Γ W (.ok (.tup (cutD ds l h'))) W3 :=
  fun G H σ Q sl hk k => ⟨tSl (StepS.rSlF F.K) (cE F e) (cO F lo) (cO F hi), fun X hX => pe_slice (hX.K ▸ StepS.sl_tupF) (cE_pe hX) (cO_po hX) (cO_po hX),
    he G H σ _ sl hk fun x G1 H1 s1 r1 => hl G1 H1 σ _ (sl.mono s1.le) s1.hk fun G2 H2 s2 => hh G2 H2 σ _ (sl.mono (s1.le.trans s2.le)) s2.hk fun G3 H3 s3 => by
      obtain ⟨p, vs, rfl, e1, q1⟩ := (r1.mono (s2.le.trans s3.le)).tup_inv
      refine ⟨p, vs, rfl, sqt_up s3.hk e1, fun hw => ?_, fun hw => (k.step ((s1.trans s2).trans s3)).newT s3.hk (q1.cut _ _)⟩
      refine k _ G3 H3 ((s1.trans s2).trans s3) (.tup_mk e1 ?_)
      have e : cutD ds l h' = ds := by
        unfold cutD
        rw [← q1.1, hw.1, hw.2, List.drop_zero, Nat.sub_zero, q1.1, List.take_length]
      rw [e]
      exact q1⟩
theorem ev_sliceS {z : Str} (he : EV F e Γ W (.ok (.str z)) W1) (hl : EO F lo Γ W1 l W2) (hh : EO F hi Γ W2 h' W3) (hz : z.length ≤ sizeLine) : EV F (.Subscript e (.Slice lo hi none p2) pos) Γ W (.ok (.str (cutS z l h'))) W3 :=
  fun G H σ Q sl hk k => ⟨tSl rSlS (cE F e) (cO F lo) (cO F hi), fun X hX => pe_slice sl_str (cE_pe hX) (cO_po hX) (cO_po hX),
    he G H σ _ sl hk fun x G1 H1 s1 r1 => hl G1 H1 σ _ (sl.mono s1.le) s1.hk fun G2 H2 s2 => hh G2 H2 σ _ (sl.mono (s1.le.trans s2.le)) s2.hk fun G3 H3 s3 =>
      ⟨z, r1.str_inv, hz, k _ G3 H3 ((s1.trans s2).trans s3) (.str _)⟩⟩
theorem en_step {ds : List D} {c : Option Int} (he : EV F e Γ W (.ok d) W1) (hl : EO F lo Γ W1 l W2) (hh : EO F hi Γ W2 h' W3) (hs : EO F (some st) Γ W3 c W4) (hd : AsL W4 d ds) (h0 : c ≠ some 0) : EN F (.Subscript e (.Slice lo hi (some st) p2) pos) Γ W (StepS.pickL ds l h' c) W4 :=
  fun G H σ Q sl hk k => ⟨StepS.tStL F.K (cE F e) (cO F lo) (cO F hi) (cO F (some st)), fun X hX => hX.K ▸ StepS.pe_stL (cE_pe hX) (cO_po hX) (cO_po hX) (cO_po hX),
    he G H σ _ sl hk fun x G1 H1 s1 r1 => hl G1 H1 σ _ (sl.mono s1.le) s1.hk fun G2 H2 s2 => hh G2 H2 σ _ (sl.mono (s1.le.trans s2.le)) s2.hk fun G3 H3 s3 => hs G3 H3 σ _ (sl.mono ((s1.le.trans s2.le).trans s3.le)) s3.hk fun G4 H4 s4 => by
      obtain ⟨p, vs, rfl, e1, q1⟩ := hd.at s4.hk (r1.mono ((s2.le.trans s3.le).trans s4.le))
      exact ⟨p, vs, rfl, SqL.of e1, h0, fun z hz => k z G4 _ (s1.back (s2.back (s3.back (s4.back hz)))) ((((s1.trans s2).trans s3).trans s4).trans (s4.hk.allocO hz (q1.pickL _ _ _)))⟩⟩
theorem ev_stepT {ds : List D} {c : Int} (he : EV F e Γ W (.ok (.tup ds)) W1) (hl : EO F lo Γ W1 l W2) (hh : EO F hi Γ W2 h' W3) (hs : EO F (some st) Γ W3 (some c) W4) (h0 : c ≠ 0) (hz : (StepS.pickT ds l h' c).length ≤ sizeLine)
    (hw : ((Builtin.Slice.sliceAdjust l h' c ds.length).1 == 0 && c == 1 && (Builtin.Slice.slicePlaces (Builtin.Slice.sliceAdjust l h' c ds.length).1 (Builtin.Slice.sliceAdjust l h' c ds.length).2 c) == ds.length) = true → StepS.pickT ds l h' c = ds) :
    EV F (.Subscript e (.Slice lo hi (some st) p2) pos) Γ W (.ok (.tup (StepS.pickT ds l h' c))) W4 :=
  fun G H σ Q sl hk k => ⟨StepS.tStT F.K (cE F e) (cO F lo) (cO F hi) (cO F (some st)), fun X hX => hX.K ▸ StepS.pe_stT (cE_pe hX) (cO_po hX) (cO_po hX) (cO_po hX),
    he G H σ _ sl hk fun x G1 H1 s1 r1 => hl G1 H1 σ _ (sl.mono s1.le) s1.hk fun G2 H2 s2 => hh G2 H2 σ _ (sl.mono (s1.le.trans s2.le)) s2.hk fun G3 H3 s3 => hs G3 H3 σ _ (sl.mono ((s1.le.trans s2.le).trans s3.le)) s3.hk fun G4 H4 s4 => by
      have st := ((s1.trans s2).trans s3).trans s4
      obtain ⟨p, vs, rfl, e1, q1⟩ := (r1.mono ((s2.le.trans s3.le).trans s4.le)).tup_inv
      have q2 := q1.pickT l h' c
      refine ⟨p, vs, c, rfl, sqt_up s4.hk e1, rfl, h0, by rw [q2.1]; exact hz, fun hb => ?_, fun hb => (k.step st).newT s4.hk q2⟩
      rw [q1.1] at hb
      refine k _ G4 H4 st (.tup_mk e1 ?_)
      rw [hw hb]
      exact q1⟩
end
end
end Sh
set_option Elab.async false
set_option linter.all false
set_option maxRecDepth 100000
set_option maxHeartbeats 1000000
set_option autoImplicit false
/-! ShE: calls of built-in functions and of methods of built-in types. -/
namespace StepS
open PySem PySem.Spec PyProof.Rows L2
/-- a tuple (of the written part, or made) that has no dict of its own -/
def tyT (K : PySem.W.Frag) (x : V) (H : Hp) : Prop := ∃ a, x = .ref a ∧ ((∃ (o : Obj) (vs : List V), H a = some (.frz o (.tup vs)) ∧ o.cls = .type "tuple" ∧ o.dict = none) ∨ ∃ o, K.lookup a = some o ∧ o.cls = .type "tuple" ∧ o.dict = none)
theorem tyT_is {X : Cx} {pins : List (Addr × Obj)} {σ : L2.St} {H : Hp} {s : Shared} {x : V} {v : Value} (I : Inv X pins σ H s) (r : RelV x v) (ty : tyT X.K x H) :
    s.TypeIs v "tuple" ∧ ∀ a, v = .ref a → ∃ ob, s.heap.get? a = some ob ∧ ob.dict = none := by
  obtain ⟨a, rfl, h⟩ := ty
  cases r
  rcases h with ⟨o, vs, e, h1, h2⟩ | ⟨o, e, h1, h2⟩
  · obtain ⟨e2, _⟩ := I.hok a _ e
    exact ⟨⟨o, e2, h1⟩, fun b hb => by cases hb; exact ⟨o, e2, h2⟩⟩
  · have e2 := I.kIn a o e
    exact ⟨⟨o, e2, h1⟩, fun b hb => by cases hb; exact ⟨o, e2, h2⟩⟩
def tTM (K : PySem.W.Frag) (r : V → List V → Hp → VK → Prop) (to : TE) (t : TA) : TE := fun σ H Q => to σ H fun x H1 => tyT K x H1 ∧ t σ H1 fun xs H2 => r x xs H2 Q
/-- t.m(..), t a tuple -/
theorem pe_tm {X : Cx} {o e : Expr} {es : List Expr} {to : TE} {t : TA} {name : Str} {apos cpos : Pos} {id : String} {r : V → List V → Hp → VK → Prop} (pa : PlainAttrs "tuple") (slot : Slot "tuple" name id) (hty : typeOf (.builtin id) = pure (.type "method_descriptor")) (hm : MtR X id r) (ho : PE X o to) (ha : PA X (e :: es) t)
    (hbase : attributeBase o name X.env (eval o X.env) = eval o X.env)
    (hfew : ((backTo cpos (starEach (e :: es) X.env)).all (fun x => !x.1) && (backToKw cpos (keywordEach [] X.env)).all (fun x => x.1.isSome) && decide ((e :: es).length + ([] : List Keyword).length + (if ([] : List Keyword).isEmpty then 0 else 1) < 30)) = true)
    (hline : (apos.endLine == cpos.line) = true) (hs : starEach (e :: es) X.env = (false, eval e X.env) :: starEach es X.env) (hplain : (backTo cpos (starEach es X.env)).any (·.1) = false) :
    PE X (.Call (.Attribute o name apos) (e :: es) [] cpos) (tTM X.K r to t) := by
  refine ⟨fun pins s σ H Q I h => wpAny_Call_method_late hbase hfew hline rfl (thn (ho.run pins s σ H _ I h) fun v s1 ⟨x, H1, I1, r1, ty, q1⟩ => ?_)⟩
  obtain ⟨h1, h2⟩ := tyT_is I1 r1 ty
  refine ⟨"tuple", id, pa, slot, hty, h1, h2, ?_⟩
  have hA := ha.run cpos pins s1 σ H1 _ I1 q1
  rw [hs] at hA ⊢
  refine Calls.callWith_builtin (by show (false || (backTo cpos (starEach es X.env)).any (·.1)) = false; rw [hplain] <;> rfl) (Calls.evalArgs_plain ?_)
  exact thn hA fun us s2 ⟨vs, H2, I2, r2, q2⟩ => hm pins s2 σ H2 x vs v us Q I2 r1 r2 q2
/-- t.index(x): the first place of an equal one -/
def rIndexT (K : PySem.W.Frag) : V → List V → Hp → VK → Prop := fun x xs H Q => ∃ (a : Addr) (y : V) (d : PyData) (ds : List PyData) (j : Nat) (z : PyData), x = V.ref a ∧ xs = [y] ∧ Dp K H (V.ref a) (.tuple ds) ∧ Dp K H y d ∧
  SeqAt.shaped (.tuple ds) = true ∧ SeqAt.shaped d = true ∧ ds[j]? = some z ∧ PyData.eqv z d = true ∧ (∀ (m : Nat) (z' : PyData), m < j → ds[m]? = some z' → PyData.eqv z' d = false) ∧ Q (.int (j : Nat)) H
theorem mt_indexT {X : Cx} (hu : X.A.units + 65 < cLine) : MtR X "tuple.index" (rIndexT X.K) := by
  rintro pins s σ H _ _ v us Q I rx rxs ⟨a, y, d, ds, j, z, rfl, rfl, hl, hy, sl, sd, hz, hzj, hno, q⟩
  cases rx
  obtain ⟨uy, rfl, ry⟩ := vals1 rxs
  obtain ⟨bs, r1⟩ := Dp.reads I d y uy hy ry
  have hxs : PyData.canLayAll0 ds = true := SeqAt.canLay_of_shaped sl
  have hd9 := SeqAt.depth_of_shaped sd
  have hroom : X.A.units + 1 + min (PyData.depthAll ds) d.depth < cLine := by
    have h2 : min (PyData.depthAll ds) d.depth ≤ d.depth := Nat.min_le_right _ _
    omega
  cases hl with
  | tup hs ha =>
    obtain ⟨its, rv, ⟨⟨cls, dd, data, sls⟩, ho, hc, n, hdt⟩, hlen⟩ := I.tuple hs
    simp only at hc hdt
    subst hc hdt
    obtain ⟨as, h4⟩ := Dp.readsAll I ds _ its ha rv
    have hn : its.length = ds.length := SeqAt.ReadsAll.length ds its as h4
    have hmap : its.map (SeqAt.readOf s.heap) = ds := SeqAt.readsAll_map ds its as hxs h4
    obtain ⟨hjd, _⟩ := List.getElem?_eq_some_iff.mp hz
    have hjl : j < its.length := by omega
    have hj : j < its.toArray.size := by simpa using hjl
    have at_ : ∀ (m : Nat) (hm : m < its.toArray.size) (z' : PyData), ds[m]? = some z' → SeqAt.readOf s.heap its.toArray[m] = z' := by
      intro m hm z' hz'
      have hml : m < its.length := by simpa using hm
      rw [← hmap, List.getElem?_map, List.getElem?_eq_getElem hml] at hz'
      have e1 : SeqAt.readOf s.heap its[m] = z' := Option.some.inj hz'
      simpa using e1
    refine call_meets PySem.F.slot_tuple_index ⟨_, ho, rfl⟩ PySem.F.entry_tuple_index (PySem.F.args_tuple_index_2 _ _)
      (TI.tuple_indexAt a its.toArray n dd sls uy (fun u => PyData.eqv (SeqAt.readOf s.heap u) d) j hj ?_ ?_) ⟨ho, SeqAt.items_eqAt (vs := its.toArray) (show ReadsAll s.heap its.toArray.toList ds as from h4) r1 hxs (SeqAt.canLay_of_shaped sd) hroom, ?_⟩
    · show PyData.eqv (SeqAt.readOf s.heap its.toArray[j]) d = true
      rw [at_ j hj z hz]
      exact hzj
    · intro m hm hmj
      have hml : m < ds.length := by omega
      show PyData.eqv (SeqAt.readOf s.heap its.toArray[m]) d = false
      rw [at_ m hm ds[m] (List.getElem?_eq_getElem hml)]
      exact hno m _ hmj (List.getElem?_eq_getElem hml)
    · exact ⟨.int (j : Nat), H, I.tok _, ⟨_, rfl⟩, q⟩
end StepS
namespace Sh
open PySem PySem.Spec PyProof.Rows L2
section
variable {F : CF} {Γ : Ga} {W W1 W2 W3 : OW} {pos p : Pos} {a b c e : Expr} {d d1 d2 d3 : D} {o : Out}
/-- a plain call of a built-in function, by its rule -/
theorem ev_callB {x : Str} {id : String} {r : List V → Hp → VK → Prop} {es : List Expr} {ds : List D} (hc : ∀ X, Sat F X → CallR X (.builtin id) r) (hg : GlS F x) (hm : F.mg x = none) (hv : bootBuiltins x = some (.builtin id)) (ha : EA F (e :: es) Γ W (.ok ds) W1)
    (hr : ∀ (G H : Hp) (vs : List V) (Q : VK), Hk F.K F.T G W1 H → Rps F.K G vs ds → Kont F G W1 H o W2 Q → r vs H Q) (hn : x ≠ "__name__" := by decide) (hdb : (x == ("__debug__" : Str)) = false := by decide)
    (he : ∀ env, starEach (e :: es) env = (false, eval e env) :: starEach es env := by intro _; rfl) (hpl : ∀ env, (backTo pos (starEach es env)).any (·.1) = false := by intro _; rfl) : EV F (.Call (.Name x p) (e :: es) [] pos) Γ W o W2 :=
  fun G H σ Q sl hk k => ⟨tCB r (cA F (e :: es)), fun X hX => pe_callB (hc X hX) (hX.gl hg) (by rw [hX.mg]; exact hm) hv (cA_pa hX) hn hdb (he _) (hpl _), ha G H σ _ sl hk fun vs G1 H1 s1 r1 => hr G1 H1 vs Q s1.hk r1 (k.step s1)⟩
theorem ev_callTy {x : Str} {T : String} {r : List V → Hp → VK → Prop} {es : List Expr} {ds : List D} (hc : ∀ X, Sat F X → CallR X (.type T) r) (hg : GlS F x) (hm : F.mg x = none) (hv : bootBuiltins x = some (.type T)) (ha : EA F (e :: es) Γ W (.ok ds) W1)
    (hr : ∀ (G H : Hp) (vs : List V) (Q : VK), Hk F.K F.T G W1 H → Rps F.K G vs ds → Kont F G W1 H o W2 Q → r vs H Q) (hn : x ≠ "__name__" := by decide) (hdb : (x == ("__debug__" : Str)) = false := by decide)
    (he : ∀ env, starEach (e :: es) env = (false, eval e env) :: starEach es env := by intro _; rfl) (hpl : ∀ env, (backTo pos (starEach es env)).any (·.1) = false := by intro _; rfl) : EV F (.Call (.Name x p) (e :: es) [] pos) Γ W o W2 :=
  fun G H σ Q sl hk k => ⟨tCB r (cA F (e :: es)), fun X hX => pe_callTy (hc X hX) (hX.gl hg) (by rw [hX.mg]; exact hm) hv (cA_pa hX) hn hdb (he _) (hpl _), ha G H σ _ sl hk fun vs G1 H1 s1 r1 => hr G1 H1 vs Q s1.hk r1 (k.step s1)⟩
theorem Rps.one {K : PySem.W.Frag} {G : Hp} {vs : List V} {d : D} (h : Rps K G vs [d]) : ∃ v, vs = [v] ∧ Rp K G v d := by
  obtain ⟨v, vs', rfl, r, t⟩ := h.inv
  rw [t.inv0]
  exact ⟨v, rfl, r⟩
theorem Rps.two {K : PySem.W.Frag} {G : Hp} {vs : List V} {d d' : D} (h : Rps K G vs [d, d']) : ∃ v v', vs = [v, v'] ∧ Rp K G v d ∧ Rp K G v' d' := by
  obtain ⟨v, vs', rfl, r, t⟩ := h.inv
  obtain ⟨v', rfl, r'⟩ := t.one
  exact ⟨v, v', rfl, r, r'⟩
/-- lengths -/
inductive LenD (W : OW) : D → Nat → Prop
  | lst {d : D} {ds : List D} (h : AsL W d ds) : LenD W d ds.length
  | tup (ds : List D) : LenD W (.tup ds) ds.length
  | str (z : Str) (h : z.length ≤ sizeLine) : LenD W (.str z) z.length
theorem ev_len {n : Nat} (hg : GlS F "len") (hm : F.mg "len" = none) (ha : EV F a Γ W (.ok d) W1) (h : LenD W1 d n) (he : ∀ env, starEach [a] env = (false, eval a env) :: starEach [] env := by intro _; rfl) : EV F (.Call (.Name "len" p) [a] [] pos) Γ W (.ok (.int n)) W1 := by
  cases h with
  | lst h =>
    refine ev_callB (r := fun xs H Q => ∃ p ys, xs = [.ref p] ∧ (SqL F.K H p ys ∨ SqT F.K H p ys) ∧ Q (.int ys.length) H) (fun X hX => hX.K ▸ call_len_seq) hg hm PySem.boot_len (ea_cons ha ea_nil he) (he := he) fun G H vs Q hk rs k => ?_
    obtain ⟨v, rfl, r⟩ := rs.one
    obtain ⟨q, ws, rfl, e1, q1⟩ := h.at hk r
    exact ⟨q, ws, rfl, .inl (SqL.of e1), by rw [q1.1]; exact k _ G H (.refl hk) (.int _)⟩
  | tup ds =>
    refine ev_callB (r := fun xs H Q => ∃ p ys, xs = [.ref p] ∧ (SqL F.K H p ys ∨ SqT F.K H p ys) ∧ Q (.int ys.length) H) (fun X hX => hX.K ▸ call_len_seq) hg hm PySem.boot_len (ea_cons ha ea_nil he) (he := he) fun G H vs Q hk rs k => ?_
    obtain ⟨v, rfl, r⟩ := rs.one
    obtain ⟨q, ws, rfl, e1, q1⟩ := r.tup_inv
    exact ⟨q, ws, rfl, .inr (sqt_up hk e1), by rw [q1.1]; exact k _ G H (.refl hk) (.int _)⟩
  | str z h =>
    refine ev_callB (fun X _ => call_len_str) hg hm PySem.boot_len (ea_cons ha ea_nil he) (he := he) fun G H vs Q hk rs k => ?_
    obtain ⟨v, rfl, r⟩ := rs.one
    exact ⟨z, by rw [r.str_inv], h, k _ G H (.refl hk) (.int _)⟩
/-- tuple(x) -/
theorem ev_tupleL {ds : List D} (hg : GlS F "tuple") (hm : F.mg "tuple" = none) (ha : EV F a Γ W (.ok d) W1) (h : AsL W1 d ds) (he : ∀ env, starEach [a] env = (false, eval a env) :: starEach [] env := by intro _; rfl) : EV F (.Call (.Name "tuple" p) [a] [] pos) Γ W (.ok (.tup ds)) W1 :=
  ev_callTy (r := StepS.rTupF F.K) (fun X hX => hX.K ▸ StepS.call_tupF) hg hm (by decide +kernel) (ea_cons ha ea_nil he) (he := he) fun G H vs Q hk rs k => by
    obtain ⟨v, rfl, r⟩ := rs.one
    obtain ⟨q, ws, rfl, e1, q1⟩ := h.at hk r
    exact ⟨q, ws, rfl, .inl ⟨SqL.of e1, k.newT hk q1⟩⟩
theorem ev_tupleT {ds : List D} (hg : GlS F "tuple") (hm : F.mg "tuple" = none) (ha : EV F a Γ W (.ok (.tup ds)) W1) (he : ∀ env, starEach [a] env = (false, eval a env) :: starEach [] env := by intro _; rfl) : EV F (.Call (.Name "tuple" p) [a] [] pos) Γ W (.ok (.tup ds)) W1 :=
  ev_callTy (r := StepS.rTupF F.K) (fun X hX => hX.K ▸ StepS.call_tupF) hg hm (by decide +kernel) (ea_cons ha ea_nil he) (he := he) fun G H vs Q hk rs k => by
    obtain ⟨v, rfl, r⟩ := rs.one
    obtain ⟨q, ws, rfl, e1, q1⟩ := id r.tup_inv
    exact ⟨q, ws, rfl, .inr ⟨sqt_up hk e1, k _ G H (.refl hk) r⟩⟩
/-- list(x): a new list -/
inductive SeqD (W : OW) : D → List D → Prop
  | lst {d : D} {ds : List D} (h : AsL W d ds) : SeqD W d ds
  | tup (ds : List D) : SeqD W (.tup ds) ds
theorem SeqD.at {K : PySem.W.Frag} {T : Tb} {G H : Hp} {W : OW} {d : D} {ds : List D} {v : V} (h : SeqD W d ds) (hk : Hk K T G W H) (r : Rp K G v d) : ∃ a vs, v = .ref a ∧ (SqL K H a vs ∨ SqT K H a vs) ∧ Rps K G vs ds := by
  cases h with
  | lst h =>
    obtain ⟨q, ws, rfl, e1, q1⟩ := h.at hk r
    exact ⟨q, ws, rfl, .inl (SqL.of e1), q1⟩
  | tup =>
    obtain ⟨q, ws, rfl, e1, q1⟩ := r.tup_inv
    exact ⟨q, ws, rfl, .inr (sqt_up hk e1), q1⟩
theorem en_callTy {x : Str} {T : String} {r : List V → Hp → VK → Prop} {es : List Expr} {ds zs : List D} (hc : ∀ X, Sat F X → CallR X (.type T) r) (hg : GlS F x) (hm : F.mg x = none) (hv : bootBuiltins x = some (.type T)) (ha : EA F (e :: es) Γ W (.ok ds) W1)
    (hr : ∀ (G H : Hp) (vs : List V) (Q : VK), Hk F.K F.T G W1 H → Rps F.K G vs ds → (∀ p G' H', H p = none → Step F.K F.T G W1 H G' ((p, .lst zs) :: W1) H' → Q (.ref p) H') → r vs H Q) (hn : x ≠ "__name__" := by decide) (hdb : (x == ("__debug__" : Str)) = false := by decide)
    (he : ∀ env, starEach (e :: es) env = (false, eval e env) :: starEach es env := by intro _; rfl) (hpl : ∀ env, (backTo pos (starEach es env)).any (·.1) = false := by intro _; rfl) : EN F (.Call (.Name x p) (e :: es) [] pos) Γ W zs W1 :=
  fun G H σ Q sl hk k => ⟨tCB r (cA F (e :: es)), fun X hX => pe_callTy (hc X hX) (hX.gl hg) (by rw [hX.mg]; exact hm) hv (cA_pa hX) hn hdb (he _) (hpl _), ha G H σ _ sl hk fun vs G1 H1 s1 r1 => hr G1 H1 vs Q s1.hk r1 fun q G' H' hq s => k q G' H' (s1.back hq) (s1.trans s)⟩
theorem en_callB {x : Str} {id : String} {r : List V → Hp → VK → Prop} {es : List Expr} {ds zs : List D} (hc : ∀ X, Sat F X → CallR X (.builtin id) r) (hg : GlS F x) (hm : F.mg x = none) (hv : bootBuiltins x = some (.builtin id)) (ha : EA F (e :: es) Γ W (.ok ds) W1)
    (hr : ∀ (G H : Hp) (vs : List V) (Q : VK), Hk F.K F.T G W1 H → Rps F.K G vs ds → (∀ p G' H', H p = none → Step F.K F.T G W1 H G' ((p, .lst zs) :: W1) H' → Q (.ref p) H') → r vs H Q) (hn : x ≠ "__name__" := by decide) (hdb : (x == ("__debug__" : Str)) = false := by decide)
    (he : ∀ env, starEach (e :: es) env = (false, eval e env) :: starEach es env := by intro _; rfl) (hpl : ∀ env, (backTo pos (starEach es env)).any (·.1) = false := by intro _; rfl) : EN F (.Call (.Name x p) (e :: es) [] pos) Γ W zs W1 :=
  fun G H σ Q sl hk k => ⟨tCB r (cA F (e :: es)), fun X hX => pe_callB (hc X hX) (hX.gl hg) (by rw [hX.mg]; exact hm) hv (cA_pa hX) hn hdb (he _) (hpl _), ha G H σ _ sl hk fun vs G1 H1 s1 r1 => hr G1 H1 vs Q s1.hk r1 fun q G' H' hq s => k q G' H' (s1.back hq) (s1.trans s)⟩
theorem en_list {ds : List D} (hg : GlS F "list") (hm : F.mg "list" = none) (ha : EV F a Γ W (.ok d) W1) (h : SeqD W1 d ds) (he : ∀ env, starEach [a] env = (false, eval a env) :: starEach [] env := by intro _; rfl) : EN F (.Call (.Name "list" p) [a] [] pos) Γ W ds W1 :=
  en_callTy (r := fun xs H Q => ∃ p ys, xs = [.ref p] ∧ (SqL F.K H p ys ∨ SqT F.K H p ys) ∧ ∀ l, H l = none → Q (.ref l) (upd H l (.lst ys))) (fun X hX => hX.K ▸ call_list_of) hg hm (by decide +kernel) (ea_cons ha ea_nil he) (he := he) fun G H vs Q hk rs k => by
    obtain ⟨v, rfl, r⟩ := rs.one
    obtain ⟨q, ws, rfl, e1, q1⟩ := h.at hk r
    exact ⟨q, ws, rfl, e1, fun l hl => k l G _ hl (hk.allocO hl q1)⟩
/-- sum of a list of ints -/
theorem ev_sum {ns : List Int} (hg : GlS F "sum") (hm : F.mg "sum" = none) (ha : EV F a Γ W (.ok d) W1) (h : AsL W1 d (ns.map .int)) (he : ∀ env, starEach [a] env = (false, eval a env) :: starEach [] env := by intro _; rfl) : EV F (.Call (.Name "sum" p) [a] [] pos) Γ W (.ok (.int ns.sum)) W1 :=
  ev_callB (r := rSum F.K) (fun X hX => hX.K ▸ cr_sum hX.calm) hg hm (by decide +kernel) (ea_cons ha ea_nil he) (he := he) fun G H vs Q hk rs k => by
    obtain ⟨v, rfl, r⟩ := rs.one
    obtain ⟨q, ws, rfl, e1, q1⟩ := h.at hk r
    rw [q1.ints] at e1
    exact ⟨q, ns, rfl, SqL.of e1, k _ G H (.refl hk) (.int _)⟩
theorem ev_abs {i : Int} (hg : GlS F "abs") (hm : F.mg "abs" = none) (ha : EV F a Γ W (.ok (.int i)) W1) (he : ∀ env, starEach [a] env = (false, eval a env) :: starEach [] env := by intro _; rfl) : EV F (.Call (.Name "abs" p) [a] [] pos) Γ W (.ok (.int (if i < 0 then -i else i))) W1 :=
  ev_callB (fun X _ => call_abs) hg hm (by decide +kernel) (ea_cons ha ea_nil he) (he := he) fun G H vs Q hk rs k => by
    obtain ⟨v, rfl, r⟩ := rs.one
    exact ⟨i, by rw [r.int_inv], k _ G H (.refl hk) (.int _)⟩
theorem ev_intI {i : Int} (hg : GlS F "int") (hm : F.mg "int" = none) (ha : EV F a Γ W (.ok (.int i)) W1) (he : ∀ env, starEach [a] env = (false, eval a env) :: starEach [] env := by intro _; rfl) : EV F (.Call (.Name "int" p) [a] [] pos) Γ W (.ok (.int i)) W1 :=
  ev_callTy (fun X _ => call_int1) hg hm (by decide +kernel) (ea_cons ha ea_nil he) (he := he) fun G H vs Q hk rs k => by
    obtain ⟨v, rfl, r⟩ := rs.one
    exact .inl ⟨i, by rw [r.int_inv], k _ G H (.refl hk) (.int _)⟩
theorem ev_intB {i : Bool} (hg : GlS F "int") (hm : F.mg "int" = none) (ha : EV F a Γ W (.ok (.bl i)) W1) (he : ∀ env, starEach [a] env = (false, eval a env) :: starEach [] env := by intro _; rfl) : EV F (.Call (.Name "int" p) [a] [] pos) Γ W (.ok (.int (if i then 1 else 0))) W1 :=
  ev_callTy (fun X _ => call_int1) hg hm (by decide +kernel) (ea_cons ha ea_nil he) (he := he) fun G H vs Q hk rs k => by
    obtain ⟨v, rfl, r⟩ := rs.one
    exact .inr ⟨i, by rw [r.bl_inv], k _ G H (.refl hk) (.int _)⟩
theorem ev_strI {i : Int} (hg : GlS F "str") (hm : F.mg "str" = none) (ha : EV F a Γ W (.ok (.int i)) W1) (hz : i.natAbs.log2 < 1920) (he : ∀ env, starEach [a] env = (false, eval a env) :: starEach [] env := by intro _; rfl) : EV F (.Call (.Name "str" p) [a] [] pos) Γ W (.ok (.str (toString i))) W1 :=
  ev_callTy (fun X _ => call_str_int) hg hm (by decide +kernel) (ea_cons ha ea_nil he) (he := he) fun G H vs Q hk rs k => by
    obtain ⟨v, rfl, r⟩ := rs.one
    exact ⟨i, by rw [r.int_inv], hz, k _ G H (.refl hk) (.str _)⟩
theorem ev_min2 {i j : Int} (hg : GlS F "min") (hm : F.mg "min" = none) (ha : EA F [a, b] Γ W (.ok [.int i, .int j]) W1) (he : ∀ env, starEach [a, b] env = (false, eval a env) :: starEach [b] env := by intro _; rfl) (hpl : ∀ env, (backTo pos (starEach [b] env)).any (·.1) = false := by intro _; rfl) :
    EV F (.Call (.Name "min" p) [a, b] [] pos) Γ W (.ok (.int (if j < i then j else i))) W1 :=
  ev_callB (fun X hX => call_min2 hX.calm) hg hm (by decide +kernel) ha (he := he) (hpl := hpl) fun G H vs Q hk rs k => by
    obtain ⟨v, w, rfl, r, r'⟩ := rs.two
    exact ⟨i, j, by rw [r.int_inv, r'.int_inv], k _ G H (.refl hk) (.int _)⟩
theorem ev_max2 {i j : Int} (hg : GlS F "max") (hm : F.mg "max" = none) (ha : EA F [a, b] Γ W (.ok [.int i, .int j]) W1) (he : ∀ env, starEach [a, b] env = (false, eval a env) :: starEach [b] env := by intro _; rfl) (hpl : ∀ env, (backTo pos (starEach [b] env)).any (·.1) = false := by intro _; rfl) :
    EV F (.Call (.Name "max" p) [a, b] [] pos) Γ W (.ok (.int (if j > i then j else i))) W1 :=
  ev_callB (fun X hX => call_max2 hX.calm) hg hm (by decide +kernel) ha (he := he) (hpl := hpl) fun G H vs Q hk rs k => by
    obtain ⟨v, w, rfl, r, r'⟩ := rs.two
    exact ⟨i, j, by rw [r.int_inv, r'.int_inv], k _ G H (.refl hk) (.int _)⟩
/-- sorted of ints -/
theorem en_sortI {ns ms : List Int} (hg : GlS F "sorted") (hm : F.mg "sorted" = none) (ha : EV F a Γ W (.ok d) W1) (h : AsL W1 d (ns.map .int)) (hs : ∀ ms', ms'.Perm ns → ms'.Pairwise (· ≤ ·) → ms' = ms) (he : ∀ env, starEach [a] env = (false, eval a env) :: starEach [] env := by intro _; rfl) :
    EN F (.Call (.Name "sorted" p) [a] [] pos) Γ W (ms.map .int) W1 :=
  en_callB (r := rSortedI F.K) (fun X hX => hX.K ▸ cr_sortedI) hg hm (by decide +kernel) (ea_cons ha ea_nil he) (he := he) fun G H vs Q hk rs k => by
    obtain ⟨v, rfl, r⟩ := rs.one
    obtain ⟨q, ws, rfl, e1, q1⟩ := h.at hk r
    rw [q1.ints] at e1
    refine ⟨q, ns, rfl, SqL.of e1, fun ms' l h1 h2 hl => ?_⟩
    rw [hs ms' h1 h2]
    exact k l G _ hl (hk.allocO hl (Rps.of_ints ms))

/-! ### methods -/
theorem ev_bm {T id : String} {name : Str} {r : V → List V → Hp → VK → Prop} {es : List Expr} {ds : List D} {apos : Pos} (pa : PlainAttrs T) (slot : Slot T name id) (hty : typeOf (.builtin id) = pure (.type "method_descriptor")) (hm : ∀ X, Sat F X → MtR X id r)
    (ho : EV F a Γ W (.ok d) W1) (ha : EA F (e :: es) Γ W1 (.ok ds) W2) (ht : ∀ (G H : Hp) (x : V), Hk F.K F.T G W1 H → Rp F.K G x d → tyV F.K T x H)
    (hr : ∀ (G H : Hp) (x : V) (vs : List V) (Q : VK), Hk F.K F.T G W2 H → Rp F.K G x d → Rps F.K G vs ds → Kont F G W2 H o W3 Q → r x vs H Q)
    (hbase : ∀ env, attributeBase a name env (eval a env) = eval a env := by intro _; rfl)
    (hfew : ∀ env, ((backTo pos (starEach (e :: es) env)).all (fun x => !x.1) && (backToKw pos (keywordEach [] env)).all (fun x => x.1.isSome) && decide ((e :: es).length + ([] : List Keyword).length + (if ([] : List Keyword).isEmpty then 0 else 1) < 30)) = true := by intro _; rfl)
    (hline : (apos.endLine == pos.line) = true := by rfl) (hs : ∀ env, starEach (e :: es) env = (false, eval e env) :: starEach es env := by intro _; rfl) (hpl : ∀ env, (backTo pos (starEach es env)).any (·.1) = false := by intro _; rfl) :
    EV F (.Call (.Attribute a name apos) (e :: es) [] pos) Γ W o W3 :=
  fun G H σ Q sl hk k => ⟨tBM F.K T r (cE F a) (cA F (e :: es)), fun X hX => hX.K ▸ pe_bm pa slot hty (hm X hX) (cE_pe hX) (cA_pa hX) (hbase _) (hfew _) hline (hs _) (hpl _),
    ho G H σ _ sl hk fun x G1 H1 s1 r1 => ⟨ht G1 H1 x s1.hk r1, ha G1 H1 σ _ (sl.mono s1.le) s1.hk fun vs G2 H2 s2 r2 => hr G2 H2 x vs Q s2.hk (r1.mono s2.le) r2 (k.step (s1.trans s2))⟩⟩
theorem ev_bm0 {T id : String} {name : Str} {r : V → List V → Hp → VK → Prop} {apos : Pos} (pa : PlainAttrs T) (slot : Slot T name id) (hty : typeOf (.builtin id) = pure (.type "method_descriptor")) (hm : ∀ X, Sat F X → MtR X id r)
    (ho : EV F a Γ W (.ok d) W1) (ht : ∀ (G H : Hp) (x : V), Hk F.K F.T G W1 H → Rp F.K G x d → tyV F.K T x H)
    (hr : ∀ (G H : Hp) (x : V) (Q : VK), Hk F.K F.T G W1 H → Rp F.K G x d → Kont F G W1 H o W3 Q → r x [] H Q)
    (hbase : ∀ env, attributeBase a name env (eval a env) = eval a env := by intro _; rfl) (hline : (apos.endLine == pos.line) = true := by rfl) : EV F (.Call (.Attribute a name apos) [] [] pos) Γ W o W3 :=
  fun G H σ Q sl hk k => ⟨tBM0 F.K T r (cE F a), fun X hX => hX.K ▸ pe_bm0 pa slot hty (hm X hX) (cE_pe hX) (hbase _) hline,
    ho G H σ _ sl hk fun x G1 H1 s1 r1 => ⟨ht G1 H1 x s1.hk r1, hr G1 H1 x Q s1.hk r1 (k.step s1)⟩⟩
theorem ty_list {ds : List D} (h : AsL W d ds) (G H : Hp) (x : V) (hk : Hk F.K F.T G W H) (r : Rp F.K G x d) : tyV F.K "list" x H := by
  obtain ⟨q, ws, rfl, e1, _⟩ := h.at hk r
  exact .inl ⟨rfl, ws, SqL.of e1⟩
theorem ty_str {z : Str} (G H : Hp) (x : V) (hk : Hk F.K F.T G W H) (r : Rp F.K G x (.str z)) : tyV F.K "str" x H := by
  rw [r.str_inv]
  exact rfl
/-- xs.index(y), xs a list, a tuple -/
theorem ev_lindex {y : D} {j : Nat} {py : PyData} {ps : List PyData} {q : PyData} {apos : Pos} (ho : EV F a Γ W (.ok d) W1) (ha : EV F e Γ W1 (.ok y) W2) {ds1 : List D} (hl1 : AsL W1 d ds1) (h1 : Py W2 d (.list ps)) (h2 : Py W2 y py) (s1 : SeqAt.shaped (.list ps) = true) (s2 : SeqAt.shaped py = true)
    (hj : ps[j]? = some q) (hq : PyData.eqv q py = true) (hn : ∀ (m : Nat) (z : PyData), m < j → ps[m]? = some z → PyData.eqv z py = false)
    (hbase : ∀ env, attributeBase a "index" env (eval a env) = eval a env := by intro _; rfl)
    (hfew : ∀ env, ((backTo pos (starEach [e] env)).all (fun x => !x.1) && (backToKw pos (keywordEach [] env)).all (fun x => x.1.isSome) && decide ([e].length + ([] : List Keyword).length + (if ([] : List Keyword).isEmpty then 0 else 1) < 30)) = true := by intro _; rfl)
    (hline : (apos.endLine == pos.line) = true := by rfl) (hs : ∀ env, starEach [e] env = (false, eval e env) :: starEach [] env := by intro _; rfl) : EV F (.Call (.Attribute a "index" apos) [e] [] pos) Γ W (.ok (.int j)) W2 :=
  ev_bm (r := rIndexD F.K) PySem.F.plainAttrs_list PySem.F.slot_list_index PySem.F.type_list_index (fun X hX => hX.K ▸ mt_indexD hX.un) ho (ea_cons ha ea_nil hs) (ty_list hl1) (fun G H x vs Q hk rx rs k => by
    obtain ⟨v, rfl, r⟩ := rs.one
    have hd := h1.dp hk rx
    rcases hl1 with rfl | ⟨b, i, rfl, _⟩
    · obtain ⟨b, ws, rfl, _, _⟩ := rx.lst_inv
      exact ⟨_, v, py, ps, j, q, rfl, rfl, hd, h2.dp hk r, s1, s2, hj, hq, hn, k _ G H (.refl hk) (.int _)⟩
    · obtain rfl := rx.ptr_inv
      exact ⟨_, v, py, ps, j, q, rfl, rfl, hd, h2.dp hk r, s1, s2, hj, hq, hn, k _ G H (.refl hk) (.int _)⟩) hbase hfew hline hs
theorem ev_tindex {ds : List D} {y : D} {j : Nat} {py : PyData} {ps : List PyData} {q : PyData} {apos : Pos} (ho : EV F a Γ W (.ok (.tup ds)) W1) (ha : EV F e Γ W1 (.ok y) W2) (h1 : Py W2 (.tup ds) (.tuple ps)) (h2 : Py W2 y py) (s1 : SeqAt.shaped (.tuple ps) = true) (s2 : SeqAt.shaped py = true)
    (hj : ps[j]? = some q) (hq : PyData.eqv q py = true) (hn : ∀ (m : Nat) (z : PyData), m < j → ps[m]? = some z → PyData.eqv z py = false)
    (hbase : ∀ env, attributeBase a "index" env (eval a env) = eval a env := by intro _; rfl)
    (hfew : ∀ env, ((backTo pos (starEach [e] env)).all (fun x => !x.1) && (backToKw pos (keywordEach [] env)).all (fun x => x.1.isSome) && decide ([e].length + ([] : List Keyword).length + (if ([] : List Keyword).isEmpty then 0 else 1) < 30)) = true := by intro _; rfl)
    (hline : (apos.endLine == pos.line) = true := by rfl) (hs : ∀ env, starEach [e] env = (false, eval e env) :: starEach [] env := by intro _; rfl) : EV F (.Call (.Attribute a "index" apos) [e] [] pos) Γ W (.ok (.int j)) W2 :=
  fun G H σ Q sl hk k => ⟨StepS.tTM F.K (StepS.rIndexT F.K) (cE F a) (cA F [e]), fun X hX => hX.K ▸ StepS.pe_tm PySem.F.plainAttrs_tuple PySem.F.slot_tuple_index PySem.F.type_tuple_index (StepS.mt_indexT hX.un) (cE_pe hX) (cA_pa hX) (hbase _) (hfew _) hline (hs _) rfl,
    ho G H σ _ sl hk fun x G1 H1 t1 r1 => by
      refine ⟨?_, (ea_cons ha ea_nil hs) G1 H1 σ _ (sl.mono t1.le) t1.hk fun vs G2 H2 t2 rs => ?_⟩
      · obtain ⟨b, ws, rfl, e1, _⟩ := r1.tup_inv
        rcases e1 with ⟨o, e2, e3⟩ | ⟨o, its, n, e2, e3, e4, _⟩
        · exact ⟨b, rfl, .inl ⟨o, ws, t1.hk.sub _ _ e2, e3⟩⟩
        · exact ⟨b, rfl, .inr ⟨o, e2, e3, e4⟩⟩
      · obtain ⟨v, rfl, r⟩ := rs.one
        have rx := r1.mono t2.le
        have hd := h1.dp t2.hk rx
        obtain ⟨b, ws, rfl, _, _⟩ := rx.tup_inv
        exact ⟨b, v, py, ps, j, q, rfl, rfl, hd, h2.dp t2.hk r, s1, s2, hj, hq, hn, k _ G2 H2 (t1.trans t2) (.int _)⟩⟩
/-- z.index(y) of texts -/
theorem ev_sindex {z y : Str} {i : Nat} {rest : List Nat} {apos : Pos} (ho : EV F a Γ W (.ok (.str z)) W1) (ha : EV F e Γ W1 (.ok (.str y)) W2) (h : Builtin.Str.occurrences z y 0 z.length 1 = i :: rest)
    (hbase : ∀ env, attributeBase a "index" env (eval a env) = eval a env := by intro _; rfl)
    (hfew : ∀ env, ((backTo pos (starEach [e] env)).all (fun x => !x.1) && (backToKw pos (keywordEach [] env)).all (fun x => x.1.isSome) && decide ([e].length + ([] : List Keyword).length + (if ([] : List Keyword).isEmpty then 0 else 1) < 30)) = true := by intro _; rfl)
    (hline : (apos.endLine == pos.line) = true := by rfl) (hs : ∀ env, starEach [e] env = (false, eval e env) :: starEach [] env := by intro _; rfl) : EV F (.Call (.Attribute a "index" apos) [e] [] pos) Γ W (.ok (.int i)) W2 :=
  ev_bm PySem.F.plainAttrs_str PySem.F.slot_str_index PySem.F.type_str_index (fun X hX => mt_sindex) ho (ea_cons ha ea_nil hs) (fun G H x hk r => ty_str (F := F) G H x hk r) (fun G H x vs Q hk rx rs k => by
    obtain ⟨v, rfl, r⟩ := rs.one
    exact ⟨z, y, i, rest, rx.str_inv, by rw [r.str_inv], h, k _ G H (.refl hk) (.int _)⟩) hbase hfew hline hs
theorem ev_scount {z y : Str} {apos : Pos} (ho : EV F a Γ W (.ok (.str z)) W1) (ha : EV F e Γ W1 (.ok (.str y)) W2)
    (hbase : ∀ env, attributeBase a "count" env (eval a env) = eval a env := by intro _; rfl)
    (hfew : ∀ env, ((backTo pos (starEach [e] env)).all (fun x => !x.1) && (backToKw pos (keywordEach [] env)).all (fun x => x.1.isSome) && decide ([e].length + ([] : List Keyword).length + (if ([] : List Keyword).isEmpty then 0 else 1) < 30)) = true := by intro _; rfl)
    (hline : (apos.endLine == pos.line) = true := by rfl) (hs : ∀ env, starEach [e] env = (false, eval e env) :: starEach [] env := by intro _; rfl) : EV F (.Call (.Attribute a "count" apos) [e] [] pos) Γ W (.ok (.int (Txt.count z y))) W2 :=
  ev_bm PySem.F.plainAttrs_str PySem.F.slot_str_count PySem.F.type_str_count (fun X hX => mt_count) ho (ea_cons ha ea_nil hs) (fun G H x hk r => ty_str (F := F) G H x hk r) (fun G H x vs Q hk rx rs k => by
    obtain ⟨v, rfl, r⟩ := rs.one
    exact ⟨z, y, rx.str_inv, by rw [r.str_inv], k _ G H (.refl hk) (.int _)⟩) hbase hfew hline hs
theorem ev_lcount {ns : List Int} {y : Int} {apos : Pos} (ho : EV F a Γ W (.ok d) W1) (hl1 : AsL W1 d (ns.map .int)) (ha : EV F e Γ W1 (.ok (.int y)) W2) (hl : AsL W2 d (ns.map .int))
    (hbase : ∀ env, attributeBase a "count" env (eval a env) = eval a env := by intro _; rfl)
    (hfew : ∀ env, ((backTo pos (starEach [e] env)).all (fun x => !x.1) && (backToKw pos (keywordEach [] env)).all (fun x => x.1.isSome) && decide ([e].length + ([] : List Keyword).length + (if ([] : List Keyword).isEmpty then 0 else 1) < 30)) = true := by intro _; rfl)
    (hline : (apos.endLine == pos.line) = true := by rfl) (hs : ∀ env, starEach [e] env = (false, eval e env) :: starEach [] env := by intro _; rfl) : EV F (.Call (.Attribute a "count" apos) [e] [] pos) Γ W (.ok (.int (ns.count y : Nat))) W2 :=
  ev_bm (r := rCntI F.K) PySem.F.plainAttrs_list PySem.F.slot_list_count PySem.F.type_list_count (fun X hX => hX.K ▸ mt_lcount) ho (ea_cons ha ea_nil hs) (ty_list hl1) (fun G H x vs Q hk rx rs k => by
    obtain ⟨v, rfl, r⟩ := rs.one
    obtain ⟨q, ws, rfl, e1, q1⟩ := hl.at hk rx
    rw [q1.ints] at e1
    exact ⟨q, ns, y, rfl, by rw [r.int_inv], SqL.of e1, k _ G H (.refl hk) (.int _)⟩) hbase hfew hline hs
/-- z.join(xs) -/
theorem ev_join {z : Str} {ys : List Str} {apos : Pos} (ho : EV F a Γ W (.ok (.str z)) W1) (ha : EV F e Γ W1 (.ok d) W2) (h : SeqD W2 d (ys.map .str)) (hz : (ys.map (·.length)).sum + ys.length * z.length ≤ 16777216)
    (hs : ∀ env, starEach [e] env = [(false, eval e env)] := by intro _; rfl) (hbase : ∀ env, attributeBase a "join" env (eval a env) = eval a env := by intro _; rfl) (hline : (apos.endLine == pos.line) = true := by rfl) :
    EV F (.Call (.Attribute a "join" apos) [e] [] pos) Γ W (.ok (.str (Txt.join z ys))) W2 :=
  fun G H σ Q sl hk k => ⟨tM1 (fun x xs H Q => ∃ a p, ∃ ys : List Str, x = .str a ∧ xs = [.ref p] ∧ (SqL F.K H p (ys.map V.str) ∨ SqT F.K H p (ys.map V.str)) ∧ (ys.map (·.length)).sum + ys.length * a.length ≤ 16777216 ∧ Q (.str (Txt.join a ys)) H) (cE F a) (cE F e),
    fun X hX => hX.K ▸ pe_join (cE_pe hX) (cE_pe hX) (hs _) (hbase _) hline, ho G H σ _ sl hk fun x G1 H1 s1 r1 => ⟨⟨z, r1.str_inv⟩, ha G1 H1 σ _ (sl.mono s1.le) s1.hk fun y G2 H2 s2 r2 => by
      obtain ⟨q, ws, rfl, e1, q1⟩ := h.at s2.hk r2
      rw [q1.strs] at e1
      exact ⟨z, q, ys, r1.str_inv, rfl, e1, hz, k _ G2 H2 (s1.trans s2) (.str _)⟩⟩⟩
/-- z.split(y) -/
theorem en_split {z y : Str} {apos : Pos} (ho : EV F a Γ W (.ok (.str z)) W1) (ha : EV F e Γ W1 (.ok (.str y)) W2) (hy : (y.length == 0) = false) (hz : z.length + 2 ≤ sizeLine)
    (hs : ∀ env, starEach [e] env = [(false, eval e env)] := by intro _; rfl) (hbase : ∀ env, attributeBase a "split" env (eval a env) = eval a env := by intro _; rfl) (hline : (apos.endLine == pos.line) = true := by rfl) :
    EN F (.Call (.Attribute a "split" apos) [e] [] pos) Γ W ((Txt.split z y).map .str) W2 :=
  fun G H σ Q sl hk k => ⟨_, fun X hX => pe_split (cE_pe hX) (cE_pe hX) (hs _) (hbase _) hline, ho G H σ _ sl hk fun x G1 H1 s1 r1 => ⟨⟨z, r1.str_inv⟩, ha G1 H1 σ _ (sl.mono s1.le) s1.hk fun v G2 H2 s2 r2 =>
      ⟨z, y, r1.str_inv, by rw [r2.str_inv], hy, hz, fun l hl => k l G2 _ (s1.back (s2.back hl)) ((s1.trans s2).trans (s2.hk.allocO hl (Rps.of_strs _)))⟩⟩⟩
end
end Sh
set_option Elab.async false
set_option linter.all false
set_option maxRecDepth 100000
set_option maxHeartbeats 1000000
set_option autoImplicit false
/-! ShS: statements, targets, loops. -/
namespace Sh
open PySem PySem.Spec PyProof.Rows L2

/-- a def's body -/
structure SatS (F : CF) (X : Cx) : Prop extends Sat F X where
  nd : X.N.Nodup
  fn : ∀ x, X.fn x = true
  own : PassesOwn (model X.prog X.w) X.A X.env X.xe
  tk : Takes X (fun cls d _ H => F.E cls d H)
  stk : X.stack = X.env :: X.outer
  frm : X.env.frame = some X.env.locals
/-- what is wanted behind a statement -/
structure AE where
  nx : Ga → OW → Prop
  rt : D → OW → Prop
  bk : Ga → OW → Prop := fun _ _ => False
  ct : Ga → OW → Prop := fun _ _ => False
  er : Addr → OW → Prop := fun _ _ => False
structure OkE (F : CF) (A : AE) (G : Hp) (W : OW) (H : Hp) (De : Ends) : Prop where
  nx : ∀ Γ' W' G' H' σ', A.nx Γ' W' → Step F.K F.T G W H G' W' H' → Slots F.K G' Γ' σ' → De.nx σ' H'
  rt : ∀ d W' v G' H', A.rt d W' → Step F.K F.T G W H G' W' H' → Rp F.K G' v d → De.rt v H'
  bk : ∀ Γ' W' G' H' σ', A.bk Γ' W' → Step F.K F.T G W H G' W' H' → Slots F.K G' Γ' σ' → De.bk σ' H'
  ct : ∀ Γ' W' G' H' σ', A.ct Γ' W' → Step F.K F.T G W H G' W' H' → Slots F.K G' Γ' σ' → De.ct σ' H'
  er : ∀ c W' G' H', A.er c W' → Step F.K F.T G W H G' W' H' → F.E (.ref c) none H'
theorem OkE.step {F : CF} {A : AE} {G G1 : Hp} {W W1 : OW} {H H1 : Hp} {De : Ends} (k : OkE F A G W H De) (s : Step F.K F.T G W H G1 W1 H1) : OkE F A G1 W1 H1 De :=
  ⟨fun Γ' W' G' H' σ' a t b => k.nx Γ' W' G' H' σ' a (s.trans t) b, fun d W' v G' H' a t b => k.rt d W' v G' H' a (s.trans t) b, fun Γ' W' G' H' σ' a t b => k.bk Γ' W' G' H' σ' a (s.trans t) b,
    fun Γ' W' G' H' σ' a t b => k.ct Γ' W' G' H' σ' a (s.trans t) b, fun c W' G' H' a t => k.er c W' G' H' a (s.trans t)⟩
def cS (F : CF) (st : Stmt) : TS := fun De σ H => ∃ t : TS, (∀ X, SatS F X → PS X st t) ∧ t De σ H
def cSs (F : CF) (st : List Stmt) : TS := fun De σ H => ∃ t : TS, (∀ X, SatS F X → PSs X st t) ∧ t De σ H
theorem cS_ps {F : CF} {X : Cx} {st : Stmt} (h : SatS F X) : PS X st (cS F st) := ⟨fun pins s σ H De I ⟨_, ht, q⟩ => (ht X h).run pins s σ H De I q⟩
theorem cSs_pss {F : CF} {X : Cx} {st : List Stmt} (h : SatS F X) : PSs X st (cSs F st) := ⟨fun pins s σ H De I ⟨_, ht, q⟩ => (ht X h).run pins s σ H De I q⟩
def S1 (F : CF) (st : Stmt) (Γ : Ga) (W : OW) (A : AE) : Prop := ∀ (G H : Hp) (σ : L2.St) (De : Ends), Slots F.K G Γ σ → Hk F.K F.T G W H → OkE F A G W H De → cS F st De σ H
def SS (F : CF) (st : List Stmt) (Γ : Ga) (W : OW) (A : AE) : Prop := ∀ (G H : Hp) (σ : L2.St) (De : Ends), Slots F.K G Γ σ → Hk F.K F.T G W H → OkE F A G W H De → cSs F st De σ H

/-- an expression: what its value and what is owned behind it may be -/
def EVR (F : CF) (e : Expr) (Γ : Ga) (W : OW) (P : D → OW → Prop) : Prop := ∀ (G H : Hp) (σ : L2.St) (Q : VK), Slots F.K G Γ σ → Hk F.K F.T G W H → (∀ d W' v G' H', P d W' → Step F.K F.T G W H G' W' H' → Rp F.K G' v d → Q v H') → cE F e σ H Q
def EAR (F : CF) (es : List Expr) (Γ : Ga) (W : OW) (P : List D → OW → Prop) : Prop := ∀ (G H : Hp) (σ : L2.St) (Q : List V → Hp → Prop), Slots F.K G Γ σ → Hk F.K F.T G W H → (∀ ds W' vs G' H', P ds W' → Step F.K F.T G W H G' W' H' → Rps F.K G' vs ds → Q vs H') → cA F es σ H Q
section
variable {F : CF} {Γ : Ga} {W W1 W2 W3 : OW} {pos p : Pos} {a b c e : Expr} {d d1 d2 d3 : D} {o : Out} {A : AE}
theorem evr_of {P : D → OW → Prop} (h : EV F e Γ W (.ok d) W1) (hp : P d W1) : EVR F e Γ W P := fun G H σ Q sl hk k => h G H σ Q sl hk fun v G' H' s r => k d W1 v G' H' hp s r
theorem evr_new {P : D → OW → Prop} {ds : List D} (h : EN F e Γ W ds W1) (hp : ∀ q, P (.ptr q) ((q, .lst ds) :: W1)) : EVR F e Γ W P := fun G H σ Q sl hk k => h G H σ Q sl hk fun q G' H' _ s => k _ _ _ _ _ (hp q) s (.ptr q)
theorem ear_of {P : List D → OW → Prop} {es : List Expr} {ds : List D} (h : EA F es Γ W (.ok ds) W1) (hp : P ds W1) : EAR F es Γ W P := fun G H σ Q sl hk k => h G H σ Q sl hk fun v G' H' s r => k ds W1 v G' H' hp s r
theorem ear_nil {P : List D → OW → Prop} (hp : P [] W) : EAR F [] Γ W P := ear_of ea_nil hp
theorem ear_cons {P : List D → OW → Prop} {es : List Expr} (h : EVR F e Γ W (fun d W' => EAR F es Γ W' (fun ds W2 => P (d :: ds) W2))) (hs : ∀ env, starEach (e :: es) env = (false, eval e env) :: starEach es env := by intro _; rfl) : EAR F (e :: es) Γ W P :=
  fun G H σ Q sl hk k => ⟨tCons (cE F e) (cA F es), fun X hX => pa_cons (cE_pe hX) (cA_pa hX) (hs _),
    h G H σ _ sl hk fun d W1 v G1 H1 t s1 r1 => t G1 H1 σ _ (sl.mono s1.le) s1.hk fun ds W2 vs G2 H2 hp s2 r2 => k _ W2 _ G2 H2 hp (s1.trans s2) (r2.cons (r1.mono s2.le))⟩

/-! ### blocks -/
theorem ss_nil (h : A.nx Γ W) : SS F [] Γ W A := fun G H σ De sl hk k => ⟨tNext, fun X _ => pss_nil, k.nx Γ W G H σ h (.refl hk) sl⟩
theorem ss_cons {st : Stmt} {rest : List Stmt} (h : S1 F st Γ W { A with nx := fun Γ' W' => SS F rest Γ' W' A }) : SS F (st :: rest) Γ W A :=
  fun G H σ De sl hk k => ⟨tSeq (cS F st) (cSs F rest), fun X hX => pss_cons (cS_ps hX) (cSs_pss hX), h G H σ { De with nx := cSs F rest De } sl hk
    ⟨fun Γ' W' G' H' σ' h' t sl' => h' G' H' σ' De sl' t.hk (k.step t), k.rt, k.bk, k.ct, k.er⟩⟩
theorem ss_one {st : Stmt} (h : S1 F st Γ W A) : SS F [st] Γ W A := fun G H σ De sl hk k => ⟨cS F st, fun X hX => pss_one (cS_ps hX), h G H σ De sl hk k⟩
/-- less is wanted -/
theorem OkE.imp {A A' : AE} {G H : Hp} {De : Ends} (k : OkE F A G W H De) (h1 : ∀ Γ' W', A'.nx Γ' W' → A.nx Γ' W') (h2 : ∀ d W', A'.rt d W' → A.rt d W') (h3 : ∀ Γ' W', A'.bk Γ' W' → A.bk Γ' W') (h4 : ∀ Γ' W', A'.ct Γ' W' → A.ct Γ' W') (h5 : ∀ c W', A'.er c W' → A.er c W') : OkE F A' G W H De :=
  ⟨fun Γ' W' G' H' σ' x => k.nx Γ' W' G' H' σ' (h1 _ _ x), fun d W' v G' H' x => k.rt d W' v G' H' (h2 _ _ x), fun Γ' W' G' H' σ' x => k.bk Γ' W' G' H' σ' (h3 _ _ x), fun Γ' W' G' H' σ' x => k.ct Γ' W' G' H' σ' (h4 _ _ x), fun c W' G' H' x => k.er c W' G' H' (h5 _ _ x)⟩
theorem SS.imp {A' : AE} {st : List Stmt} (h : SS F st Γ W A) (h1 : ∀ Γ' W', A.nx Γ' W' → A'.nx Γ' W') (h2 : ∀ d W', A.rt d W' → A'.rt d W') (h3 : ∀ Γ' W', A.bk Γ' W' → A'.bk Γ' W') (h4 : ∀ Γ' W', A.ct Γ' W' → A'.ct Γ' W') (h5 : ∀ c W', A.er c W' → A'.er c W') : SS F st Γ W A' :=
  fun G H σ De sl hk k => h G H σ De sl hk (k.imp h1 h2 h3 h4 h5)
/-- what is owned in another order; some of it forgotten -/
theorem SS.perm {st : List Stmt} (h : SS F st Γ W1 A) (q : W.Perm W1) : SS F st Γ W A := fun G H σ De sl hk k =>
  h G H σ De sl (hk.perm q) (k.step ((Step.refl hk).perm (List.Perm.refl _) q))
theorem SS.drop {st : List Stmt} (h : SS F st Γ W1 A) (q : W1.Sublist W) : SS F st Γ W A := fun G H σ De sl hk k => h G H σ De sl (hk.less q) (k.step ((Step.refl hk).drop q))
theorem SS.less {Γ' : Ga} {st : List Stmt} (h : SS F st Γ' W A) (l : Lq Γ Γ') : SS F st Γ W A := fun G H σ De sl hk k => h G H σ De (sl.less l) hk k
/-- an owned list is frozen: slots that hold it may be told so -/
def thawed (q : Addr) (ds : List D) (Γ Γ' : Ga) : Prop := Γ'.length = Γ.length ∧ ∀ (i : Nat) (d : D), Γ'[i]? = some (some d) → Γ[i]? = some (some d) ∨ (Γ[i]? = some (some (.ptr q)) ∧ d = .lst ds)
theorem SS.freeze {Γ' : Ga} {st : List Stmt} {i : Nat} {q : Addr} {ds : List D} (hi : W[i]? = some (q, .lst ds)) (h : SS F st Γ' (W.eraseIdx i) A) (ht : thawed q ds Γ Γ') : SS F st Γ W A := fun G H σ De sl hk k => by
  obtain ⟨o, e, r, s⟩ := hk.freeze hi
  obtain ⟨vs, rfl, r⟩ := r.lst_inv
  refine h _ H σ De ⟨ht.1.trans sl.1, fun j d hj => ?_⟩ s.hk (k.step s)
  rcases ht.2 j d hj with z | ⟨z, rfl⟩
  · obtain ⟨v, e1, r1⟩ := sl.2 j d z
    exact ⟨v, e1, r1.mono s.le⟩
  · obtain ⟨v, e1, r1⟩ := sl.2 j _ z
    obtain rfl := r1.ptr_inv
    exact ⟨_, e1, .lst_mk upd_same (r.mono s.le)⟩

/-! ### small statements -/
theorem s1_expr (h : EVR F e Γ W (fun _ W' => A.nx Γ W')) (hs : ∀ env, swapsWith e none pos.line env = pure false := by intro _; rfl) : S1 F (.Expr e pos) Γ W A :=
  fun G H σ De sl hk k => ⟨tDrop (cE F e), fun X hX => ps_expr (cE_pe hX.toSat) (hs _), h G H σ _ sl hk fun d W' v G' H' hp s r => k.nx Γ W' G' H' σ hp s (sl.mono s.le)⟩
theorem s1_exprE {cl : Addr} (h : EV F e Γ W (.er cl) W1) (he : A.er cl W1) (hs : ∀ env, swapsWith e none pos.line env = pure false := by intro _; rfl) : S1 F (.Expr e pos) Γ W A :=
  fun G H σ De sl hk k => ⟨tDrop (cE F e), fun X hX => ps_expr (cE_pe hX.toSat) (hs _), h G H σ _ sl hk fun G' H' s => k.er cl W1 G' H' he s⟩
theorem s1_ret (h : EVR F e Γ W A.rt) : S1 F (.Return (some e) pos) Γ W A :=
  fun G H σ De sl hk k => ⟨tRet (cE F e), fun X hX => ps_ret (cE_pe hX.toSat), h G H σ _ sl hk fun d W' v G' H' hp s r => k.rt d W' v G' H' hp s r⟩
theorem s1_retE {cl : Addr} (h : EV F e Γ W (.er cl) W1) (he : A.er cl W1) : S1 F (.Return (some e) pos) Γ W A :=
  fun G H σ De sl hk k => ⟨tRet (cE F e), fun X hX => ps_ret (cE_pe hX.toSat), h G H σ _ sl hk fun G' H' s => k.er cl W1 G' H' he s⟩
theorem s1_pass (h : A.nx Γ W) : S1 F (.Pass pos) Γ W A := fun G H σ De sl hk k => ⟨tNext, fun X hX => ps_pass, k.nx Γ W G H σ h (.refl hk) sl⟩
theorem s1_break (h : A.bk Γ W) : S1 F (.Break pos) Γ W A := fun G H σ De sl hk k => ⟨tBreak, fun X hX => ps_break, k.bk Γ W G H σ h (.refl hk) sl⟩
theorem s1_cont (h : A.ct Γ W) : S1 F (.Continue pos) Γ W A := fun G H σ De sl hk k => ⟨tCont, fun X hX => ps_continue, k.ct Γ W G H σ h (.refl hk) sl⟩
theorem s1_ifT {t u : List Stmt} (hc : ET F c Γ W (.ok true) W1) (h : SS F t Γ W1 A) : S1 F (.If c t u pos) Γ W A :=
  fun G H σ De sl hk k => ⟨tIfS (cT F c) (cSs F t) (cSs F u), fun X hX => ps_if (cT_pt hX.toSat) (cSs_pss hX) (cSs_pss hX), hc G H σ _ sl hk fun G1 H1 s1 => by
    rw [if_pos rfl]
    exact h G1 H1 σ De (sl.mono s1.le) s1.hk (k.step s1)⟩
theorem s1_ifF {t u : List Stmt} (hc : ET F c Γ W (.ok false) W1) (h : SS F u Γ W1 A) : S1 F (.If c t u pos) Γ W A :=
  fun G H σ De sl hk k => ⟨tIfS (cT F c) (cSs F t) (cSs F u), fun X hX => ps_if (cT_pt hX.toSat) (cSs_pss hX) (cSs_pss hX), hc G H σ _ sl hk fun G1 H1 s1 => by
    rw [if_neg Bool.false_ne_true]
    exact h G1 H1 σ De (sl.mono s1.le) s1.hk (k.step s1)⟩
theorem s1_if {t u : List Stmt} {r : Bool} (hc : ET F c Γ W (.ok r) W1) (h1 : r = true → SS F t Γ W1 A) (h2 : r = false → SS F u Γ W1 A) : S1 F (.If c t u pos) Γ W A := by
  cases r with
  | true => exact s1_ifT hc (h1 rfl)
  | false => exact s1_ifF hc (h2 rfl)
theorem s1_ifE {t u : List Stmt} {cl : Addr} (hc : ET F c Γ W (.er cl) W1) (he : A.er cl W1) : S1 F (.If c t u pos) Γ W A :=
  fun G H σ De sl hk k => ⟨tIfS (cT F c) (cSs F t) (cSs F u), fun X hX => ps_if (cT_pt hX.toSat) (cSs_pss hX) (cSs_pss hX), hc G H σ _ sl hk fun G1 H1 s1 => k.er cl W1 G1 H1 he s1⟩

/-! ### names -/
def LocS (sc : Scope) (x : Str) : Prop := sc.names.lookup x = some .local ∨ sc.names.lookup x = some .cell
theorem SatS.loc {X : Cx} (h : SatS F X) {x : Str} (l : LocS F.sc x) : L2.Loc X.env.scope x := by
  unfold L2.Loc
  rw [h.sc]
  exact l
theorem s1_set (i : Nat) {x : Str} {pos' : Pos} (hi : F.N[i]? = some x) (hx : LocS F.sc x) (h : EVR F e Γ W (fun d W' => A.nx (Γ.set i (some d)) W')) (hs : ∀ env : Env, env.scope = F.sc → swapsWith e (some (.Name x pos')) pos.line env = pure false := by intro _ _; rfl) : S1 F (.Assign [.Name x pos'] e pos) Γ W A :=
  fun G H σ De sl hk k => ⟨tAsg (cE F e) (gName i), fun X hX => ps_set hX.nd (by rw [hX.N]; exact hi) (hX.loc hx) (cE_pe hX.toSat) (hs _ hX.sc) (.inl (hX.fn x)),
    h G H σ _ sl hk fun d W' v G' H' hp s r => k.nx _ W' G' H' _ hp s ((sl.mono s.le).put i r)⟩
theorem s1_setE (i : Nat) {x : Str} {pos' : Pos} {cl : Addr} (hi : F.N[i]? = some x) (hx : LocS F.sc x) (h : EV F e Γ W (.er cl) W1) (he : A.er cl W1) (hs : ∀ env : Env, env.scope = F.sc → swapsWith e (some (.Name x pos')) pos.line env = pure false := by intro _ _; rfl) : S1 F (.Assign [.Name x pos'] e pos) Γ W A :=
  fun G H σ De sl hk k => ⟨tAsg (cE F e) (gName i), fun X hX => ps_set hX.nd (by rw [hX.N]; exact hi) (hX.loc hx) (cE_pe hX.toSat) (hs _ hX.sc) (.inl (hX.fn x)), h G H σ _ sl hk fun G' H' s => k.er cl W1 G' H' he s⟩
/-- a, b = x, y -/
theorem s1_par (i j : Nat) {x y : Str} {px py pt pt2 : Pos} {kt k2 : Nat} (hi : F.N[i]? = some x) (hj : F.N[j]? = some y) (hij : i ≠ j) (hx : F.sc.names.lookup x = some .local) (hy : F.sc.names.lookup y = some .local)
    (h : EAR F [a, b] Γ W (fun ds W' => ∃ d d', ds = [d, d'] ∧ A.nx ((Γ.set i (some d)).set j (some d')) W'))
    (hw : ∀ env : Env, env.scope = F.sc → swappedStores [.Tuple [.Name x px, .Name y py] kt pt] (.Tuple [a, b] k2 pt2) env = pure (some [x, y]))
    (hs : ∀ env, swapsWithSole [.Tuple [.Name x px, .Name y py] kt pt] (.Tuple [a, b] k2 pt2) pos.line env = pure false := by intro _; rfl) : S1 F (.Assign [.Tuple [.Name x px, .Name y py] kt pt] (.Tuple [a, b] k2 pt2) pos) Γ W A :=
  fun G H σ De sl hk k => ⟨tPar i j (cA F [a, b]), fun X hX => ps_par hX.calm hX.nd (by rw [hX.N]; exact hi) (by rw [hX.N]; exact hj) hij (by rw [hX.sc]; exact hx) (by rw [hX.sc]; exact hy) (cA_pa hX.toSat) (hw _ hX.sc) (hs _),
    h G H σ _ sl hk fun ds W' vs G' H' ⟨d, d', e1, hp⟩ s r => by
      subst e1
      obtain ⟨v, v', rfl, r1, r2⟩ := r.two
      exact ⟨v, v', rfl, k.nx _ W' G' H' _ hp s (((sl.mono s.le).put i r1).put j r2)⟩⟩

/-! ### targets -/
/-- what a target is given: data, or a pair that is just made -/
def Yp (K : PySem.W.Frag) (G H : Hp) (v : V) (d : D) : Prop := Rp K G v d ∨ ∃ t vs ds, v = .ref t ∧ H t = some (.tup vs) ∧ d = .pr ds ∧ Rps K G vs ds
def cG (S : Cx → Prop) (tg : Expr) : TG := fun v σ H Q => ∃ g : TG, (∀ X, S X → PG X tg g) ∧ g v σ H Q
def cGs (S : Cx → Prop) (tg : List Expr) : TGs := fun v σ H Q => ∃ g : TGs, (∀ X, S X → PGs X tg g) ∧ g v σ H Q
theorem cG_pg {S : Cx → Prop} {X : Cx} {tg : Expr} (h : S X) : PG X tg (cG S tg) := ⟨fun pins s σ H v u Q I r ⟨_, ht, q⟩ => (ht X h).run pins s σ H v u Q I r q⟩
theorem cGs_pgs {S : Cx → Prop} {X : Cx} {tg : List Expr} (h : S X) : PGs X tg (cGs S tg) := ⟨fun pins s σ H v u Q I r ⟨_, ht, q⟩ => (ht X h).run pins s σ H v u Q I r q⟩
/-- the slots but those at ts are as they were -/
def But (ts : List Nat) (σ σ' : L2.St) : Prop := σ'.length = σ.length ∧ ∀ i, i ∉ ts → σ'[i]? = σ[i]?
theorem But.refl (ts : List Nat) (σ : L2.St) : But ts σ σ := ⟨rfl, fun _ _ => rfl⟩
theorem But.trans {ts us : List Nat} {σ σ1 σ2 : L2.St} (a : But ts σ σ1) (b : But us σ1 σ2) : But (ts ++ us) σ σ2 := ⟨b.1.trans a.1, fun i hi => by
  rw [List.mem_append, not_or] at hi
  rw [b.2 i hi.2, a.2 i hi.1]⟩
theorem But.set (i : Nat) (x : Option V) (σ : L2.St) : But [i] σ (σ.set i x) := ⟨List.length_set .., fun j hj => List.getElem?_set_ne fun e => hj (by rw [e]; exact List.mem_singleton.mpr rfl)⟩
def EG (F : CF) (S : Cx → Prop) (tg : Expr) (Γ : Ga) (d : D) (Γ' : Ga) (ts : List Nat) : Prop := ∀ (G H : Hp) (v : V) (σ : L2.St) (Q : L2.St → Hp → Prop), Slots F.K G Γ σ → Le G H → Yp F.K G H v d → (∀ σ', Slots F.K G Γ' σ' → But ts σ σ' → Q σ' H) → cG S tg v σ H Q
def EGs (F : CF) (S : Cx → Prop) (tg : List Expr) (Γ : Ga) (ds : List D) (Γ' : Ga) (ts : List Nat) : Prop := ∀ (G H : Hp) (vs : List V) (σ : L2.St) (Q : L2.St → Hp → Prop), Slots F.K G Γ σ → Le G H → Rps F.K G vs ds → (∀ σ', Slots F.K G Γ' σ' → But ts σ σ' → Q σ' H) → cGs S tg vs σ H Q
/-- contexts in which targets are stored -/
structure SatG (F : CF) (X : Cx) : Prop extends Sat F X where
  nd : X.N.Nodup
theorem SatS.toG {X : Cx} (h : SatS F X) : SatG F X := ⟨h.toSat, h.nd⟩
theorem eg_name {S : Cx → Prop} (hS : ∀ X, S X → SatG F X) (i : Nat) {x : Str} (hi : F.N[i]? = some x) (hx : F.sc.names.lookup x = some .local ∨ (F.sc.names.lookup x = some .cell ∧ ∀ X, S X → X.fn x = true)) (hd : ∀ ds, d = .pr ds → False := by intro _ h; cases h) : EG F S (.Name x pos) Γ d (Γ.set i (some d)) [i] :=
  fun G H v σ Q sl le y k => ⟨gName i, fun X hX => pg_name (hS X hX).nd (by rw [(hS X hX).N]; exact hi) (by
      unfold L2.Loc
      rw [(hS X hX).sc]
      rcases hx with h | h
      · exact .inl h
      · exact .inr h.1) (by
      rw [(hS X hX).sc]
      rcases hx with h | h
      · exact .inr h
      · exact .inl (h.2 X hX)), by
    rcases y with r | ⟨t, vs, ds, _, _, e, _⟩
    · exact k _ (sl.put i r) (.set i _ σ)
    · exact (hd ds e).elim⟩
/-- a name that no fresh pair comes to -/
theorem eg_nameT {S : Cx → Prop} (hS : ∀ X, S X → SatG F X) (i : Nat) {x : Str} (hi : F.N[i]? = some x) (hx : F.sc.names.lookup x = some .local ∨ (F.sc.names.lookup x = some .cell ∧ ∀ X, S X → X.fn x = true)) (G H : Hp) (v : V) (σ : L2.St) (Q : L2.St → Hp → Prop) (sl : Slots F.K G Γ σ) (r : Rp F.K G v d) (k : ∀ σ', Slots F.K G (Γ.set i (some d)) σ' → But [i] σ σ' → Q σ' H) : cG S (.Name x pos) v σ H Q :=
  ⟨gName i, fun X hX => pg_name (hS X hX).nd (by rw [(hS X hX).N]; exact hi) (by
      unfold L2.Loc
      rw [(hS X hX).sc]
      rcases hx with h | h
      · exact .inl h
      · exact .inr h.1) (by
      rw [(hS X hX).sc]
      rcases hx with h | h
      · exact .inr h
      · exact .inl (h.2 X hX)), k _ (sl.put i r) (.set i _ σ)⟩
theorem egs_nil {S : Cx → Prop} : EGs F S [] Γ [] Γ [] := fun G H vs σ Q sl le r k => ⟨gNil, fun X _ => pgs_nil, r.inv0, k σ sl (.refl _ _)⟩
theorem egs_cons {S : Cx → Prop} {ds : List D} {es : List Expr} {Γ1 Γ2 : Ga} {ts us : List Nat} (h : EG F S e Γ d Γ1 ts) (t : EGs F S es Γ1 ds Γ2 us) (hs : ∀ env, (assignEach (e :: es) env).map (·.2) = assign e env :: (assignEach es env).map (·.2) := by intro _; rfl) : EGs F S (e :: es) Γ (d :: ds) Γ2 (ts ++ us) :=
  fun G H vs σ Q sl le r k => by
    obtain ⟨v, vs', rfl, r1, r2⟩ := r.inv
    exact ⟨gCons (cG S e) (cGs S es), fun X hX => pgs_cons (cG_pg hX) (cGs_pgs hX) (hs _), v, vs', rfl, h G H v σ _ sl le (.inl r1) fun σ1 sl1 b1 => t G H vs' σ1 Q sl1 le r2 fun σ2 sl2 b2 => k σ2 sl2 (b1.trans b2)⟩
/-- (a, b, ..) -/
theorem eg_tup {S : Cx → Prop} (hS : ∀ X, S X → SatG F X) {ds : List D} {es : List Expr} {n : Nat} {Γ1 : Ga} {ts : List Nat} (h : EGs F S es Γ ds Γ1 ts) (hl : es.length = ds.length) (hn : ∀ env, (assignEach es env).length = es.length := by intro _; rfl) (hst : ∀ env, (assignEach es env).findIdx? (·.1) = none := by intro _; rfl) : EG F S (.Tuple es n pos) Γ (.tup ds) Γ1 ts :=
  fun G H v σ Q sl le y k => ⟨gTup F.K es.length (cGs S es), fun X hX => (hS X hX).K ▸ pg_tup (hS X hX).calm (cGs_pgs hX) (hn _) (hst _), by
    rcases y with r | ⟨t, vs, ds', rfl, e1, e2, r⟩
    · obtain ⟨a, vs, rfl, e1, r1⟩ := r.tup_inv
      exact ⟨a, vs, rfl, Le.st le e1.sq, by rw [r1.1, hl], h G H vs σ Q sl le r1 k⟩
    · cases e2⟩
/-- .. of a pair just made -/
theorem eg_pr {S : Cx → Prop} (hS : ∀ X, S X → SatG F X) {ds : List D} {es : List Expr} {n : Nat} {Γ1 : Ga} {ts : List Nat} (h : EGs F S es Γ ds Γ1 ts) (hl : es.length = ds.length) (hn : ∀ env, (assignEach es env).length = es.length := by intro _; rfl) (hst : ∀ env, (assignEach es env).findIdx? (·.1) = none := by intro _; rfl) : EG F S (.Tuple es n pos) Γ (.pr ds) Γ1 ts :=
  fun G H v σ Q sl le y k => ⟨gTup F.K es.length (cGs S es), fun X hX => (hS X hX).K ▸ pg_tup (hS X hX).calm (cGs_pgs hX) (hn _) (hst _), by
    rcases y with r | ⟨t, vs, ds', rfl, e1, e2, r⟩
    · cases r
    · cases e2
      exact ⟨t, vs, rfl, SqT.of e1, by rw [r.1, hl], h G H vs σ Q sl le r k⟩⟩
/-- target = e -/
theorem s1_asg {tg : Expr} (h : EVR F e Γ W (fun d W' => ∃ Γ' ts, EG F (SatS F) tg Γ d Γ' ts ∧ A.nx Γ' W')) (hs : ∀ env, swapsWithSole [tg] e pos.line env = pure false := by intro _; rfl) (hw : ∀ env, swappedStores [tg] e env = pure none := by intro _; rfl)
    (h1 : ∀ env, (assignEach [tg] env).map (·.2) = [assign tg env] := by intro _; rfl) : S1 F (.Assign [tg] e pos) Γ W A :=
  fun G H σ De sl hk k => ⟨tAsg (cE F e) (cG (SatS F) tg), fun X hX => ps_asg (cE_pe hX.toSat) (cG_pg hX) (hs _) (hw _) (h1 _),
    h G H σ _ sl hk fun d W' v G' H' ⟨Γ', ts, hg, hp⟩ s r => hg G' H' v σ _ (sl.mono s.le) s.hk.sub (.inl r) fun σ' sl' _ => k.nx Γ' W' G' H' σ' hp s sl'⟩

/-! ### what a for walks -/
def cI (F : CF) (tg iter : Expr) : TI := fun σ H R => ∃ wi : TI, (∀ X, Sat F X → PI X tg iter wi) ∧ wi σ H R
theorem cI_pi {X : Cx} {tg iter : Expr} (h : Sat F X) : PI X tg iter (cI F tg iter) := ⟨fun pins s σ H R I ⟨_, ht, q⟩ => (ht X h).run pins s σ H R I q⟩
/-- J hands out ds, one after another, while the frozen stands (and what is owned is as Wk says) -/
def Wlk (F : CF) (J : It) (G : Hp) (Wk : OW → Prop) (ds : List D) : Prop := ∀ (G' : Hp) (W' : OW) (H' : Hp), Le G G' → Hk F.K F.T G' W' H' → Wk W' → ∀ i,
  (∀ d, ds[i]? = some d → J.go i H' ∧ ∀ x H'', J.yld i H' x H'' → Step F.K F.T G' W' H' G' W' H'' ∧ Yp F.K G' H'' x d) ∧ (ds.length ≤ i → J.stop i H')
def EI (F : CF) (tg iter : Expr) (Γ : Ga) (W : OW) (ds : List D) (Wk : OW → Prop) (W1 : OW) : Prop := ∀ (G H : Hp) (σ : L2.St) (R : It → Hp → Prop), Slots F.K G Γ σ → Hk F.K F.T G W H → (∀ J G' H', Step F.K F.T G W H G' W1 H' → Wlk F J G' Wk ds → R J H') → cI F tg iter σ H R
theorem yp_of {K : PySem.W.Frag} {G H : Hp} {v : V} (r : Rp K G v d) : Yp K G H v d := .inl r
theorem ei_list {tg : Expr} {ds : List D} (h : EV F e Γ W (.ok d) W1) (hd : AsL W1 d ds) : EI F tg e Γ W ds (fun W' => AsL W' d ds) W1 :=
  fun G H σ R sl hk k => ⟨iList F.K (cE F e), fun X hX => hX.K ▸ pi_list (cE_pe hX), h G H σ _ sl hk fun v G1 H1 s1 r1 => by
    obtain ⟨a, vs, rfl, e1, q1⟩ := hd.at s1.hk r1
    refine ⟨a, rfl, ⟨vs, SqL.of e1⟩, k _ G1 H1 s1 fun G' W' H' le hk' wk i => ?_⟩
    obtain ⟨a', vs', ea, e2, q2⟩ := wk.at hk' (r1.mono le)
    cases ea
    refine ⟨fun d hd => ?_, fun hi => ⟨vs', SqL.of e2, by rw [q2.1]; exact hi⟩⟩
    obtain ⟨v, ev, rv⟩ := q2.get hd
    refine ⟨⟨vs', v, SqL.of e2, ev⟩, fun x H'' y => ?_⟩
    obtain ⟨rfl, y⟩ := y
    have := y vs' (SqL.of e2)
    rw [ev] at this
    cases this
    exact ⟨.refl hk', yp_of rv⟩⟩
theorem ei_tup {tg : Expr} {ds : List D} (h : EV F e Γ W (.ok (.tup ds)) W1) : EI F tg e Γ W ds (fun _ => True) W1 :=
  fun G H σ R sl hk k => ⟨iTup F.K (cE F e), fun X hX => hX.K ▸ pi_tup (cE_pe hX), h G H σ _ sl hk fun v G1 H1 s1 r1 => by
    obtain ⟨a, vs, rfl, e1, q1⟩ := r1.tup_inv
    refine ⟨a, rfl, ⟨vs, sqt_up s1.hk e1⟩, k _ G1 H1 s1 fun G' W' H' le hk' _ i => ?_⟩
    have e2 : SqT F.K H' a vs := Le.st (le.trans hk'.sub) e1.sq
    refine ⟨fun d hd => ?_, fun hi => ⟨vs, e2, by rw [q1.1]; exact hi⟩⟩
    obtain ⟨v, ev, rv⟩ := q1.get hd
    refine ⟨⟨vs, v, e2, ev⟩, fun x H'' y => ?_⟩
    obtain ⟨rfl, y⟩ := y
    have := y vs e2
    rw [ev] at this
    cases this
    exact ⟨.refl hk', yp_of (rv.mono le)⟩⟩
theorem ei_str {tg : Expr} {z : Str} (h : EV F e Γ W (.ok (.str z)) W1) : EI F tg e Γ W (z.cps.toList.map fun c => .str ⟨#[c]⟩) (fun _ => True) W1 :=
  fun G H σ R sl hk k => ⟨iStr (cE F e), fun X hX => pi_str (cE_pe hX), h G H σ _ sl hk fun v G1 H1 s1 r1 => ⟨z, r1.str_inv, k _ G1 H1 s1 fun G' W' H' le hk' _ i => by
    refine ⟨fun d hd => ?_, fun hi => ?_⟩
    · rw [List.getElem?_map, Array.getElem?_toList] at hd
      cases hc : z.cps[i]? with
      | none =>
        rw [hc] at hd
        cases hd
      | some c =>
        rw [hc] at hd
        cases hd
        have hlt := (Array.getElem?_eq_some_iff.mp hc).1
        refine ⟨hlt, fun x H'' y => ?_⟩
        obtain ⟨rfl, c', hc', rfl⟩ := y
        rw [hc] at hc'
        cases hc'
        exact ⟨.refl hk', yp_of (.str _)⟩
    · rw [List.length_map, Array.length_toList] at hi
      exact hi⟩⟩
def rngD (lo : Int) (n : Nat) : List D := (List.range n).map fun (i : Nat) => .int (lo + (i : Int))
theorem rngD_len (lo : Int) (n : Nat) : (rngD lo n).length = n := by
  unfold rngD
  rw [List.length_map, List.length_range]
theorem rngD_get {lo : Int} {n i : Nat} (h : (rngD lo n)[i]? = some d) : i < n ∧ d = .int (lo + i) := by
  unfold rngD at h
  rw [List.getElem?_map] at h
  by_cases hi : i < n
  · rw [List.getElem?_range hi] at h
    cases h
    exact ⟨hi, rfl⟩
  · rw [List.getElem?_eq_none (by rw [List.length_range]; omega)] at h
    cases h
theorem wlk_rng {G : Hp} {lo : Int} {n : Nat} : Wlk F (Itr lo n) G (fun _ => True) (rngD lo n) := fun G' W' H' le hk' _ i => by
  refine ⟨fun d hd => ?_, fun hi => ?_⟩
  · obtain ⟨hi, rfl⟩ := rngD_get hd
    refine ⟨hi, fun x H'' y => ?_⟩
    obtain ⟨rfl, rfl⟩ := y
    exact ⟨.refl hk', yp_of (.int _)⟩
  · rw [rngD_len] at hi
    exact hi
theorem ei_range1 {tg : Expr} {j : Int} (hg : GlS F "range") (hm : F.mg "range" = none) (h : EV F a Γ W (.ok (.int j)) W1) (hj : -(2 ^ 62) ≤ j ∧ j < 2 ^ 62) (hs : ∀ env, starEach [a] env = [(false, eval a env)] := by intro _; rfl) : EI F tg (.Call (.Name "range" p) [a] [] pos) Γ W (rngD 0 j.toNat) (fun _ => True) W1 :=
  fun G H σ R sl hk k => ⟨iRng1 (cA F [a]), fun X hX => pi_range1 (hX.gl hg) (by rw [hX.mg]; exact hm) (cA_pa hX) (hs _), (ea_cons h ea_nil (fun env => by rw [hs]; rfl)) G H σ _ sl hk fun vs G1 H1 s1 r1 => by
    obtain ⟨v, rfl, r⟩ := r1.one
    exact ⟨j, by rw [r.int_inv], hj.1, hj.2, k _ G1 H1 s1 wlk_rng⟩⟩
theorem ei_range2 {tg : Expr} {i j : Int} (hg : GlS F "range") (hm : F.mg "range" = none) (h : EA F [a, b] Γ W (.ok [.int i, .int j]) W1) (hj : -(2 ^ 62) ≤ i ∧ i < 2 ^ 62 ∧ -(2 ^ 62) ≤ j ∧ j < 2 ^ 62) (hs : ∀ env, starEach [a, b] env = [(false, eval a env), (false, eval b env)] := by intro _; rfl) (hs2 : ∀ env, starEach [b] env = [(false, eval b env)] := by intro _; rfl) :
    EI F tg (.Call (.Name "range" p) [a, b] [] pos) Γ W (rngD i (j - i).toNat) (fun _ => True) W1 :=
  fun G H σ R sl hk k => ⟨iRng2 (cA F [a, b]), fun X hX => pi_range2 (hX.gl hg) (by rw [hX.mg]; exact hm) (cA_pa hX) (hs _) (hs2 _), h G H σ _ sl hk fun vs G1 H1 s1 r1 => by
    obtain ⟨v, w, rfl, r, r'⟩ := r1.two
    exact ⟨i, j, by rw [r.int_inv, r'.int_inv], hj, k _ G1 H1 s1 wlk_rng⟩⟩

/-! ### for, while -/
theorem s1_for {tg iter : Expr} {body : List Stmt} {ds : List D} {Wk : OW → Prop} (hi : EI F tg iter Γ W ds Wk W1) (I : Nat → Ga → OW → Prop) (h0 : I 0 Γ W1) (hk' : ∀ i Γ' W', I i Γ' W' → Wk W')
    (hs : ∀ i d Γ' W', ds[i]? = some d → I i Γ' W' → ∃ Γ'' ts, EG F (SatS F) tg Γ' d Γ'' ts ∧ SS F body Γ'' W' { A with nx := I (i + 1), ct := I (i + 1), bk := A.nx })
    (hd : ∀ Γ' W', I ds.length Γ' W' → A.nx Γ' W') (hf : ∀ env x, foldedSetIterable iter env x = pure x := by intro _ _; rfl) : S1 F (.For tg iter body [] pos) Γ W A :=
  fun G H σ De sl hk k => ⟨tFor (cI F tg iter) (cG (SatS F) tg) (cSs F body), fun X hX => ps_for hX.own hX.calm (cI_pi hX.toSat) (cG_pg hX) (cSs_pss hX) (hf _), hi G H σ _ sl hk fun J G1 H1 s1 wl => by
    refine ⟨fun i m σ' H' => m = ds.length - i ∧ i ≤ ds.length ∧ ∃ Γ' W' G', Step F.K F.T G1 W1 H1 G' W' H' ∧ Slots F.K G' Γ' σ' ∧ I i Γ' W', ⟨ds.length, by simp, Nat.zero_le _, Γ, W1, G1, .refl s1.hk, sl.mono s1.le, h0⟩, ?_⟩
    rintro i m σ' H' ⟨rfl, hil, Γ', W', G', st, sl', inv⟩
    obtain ⟨w1, w2⟩ := wl G' W' H' st.le st.hk (hk' i Γ' W' inv) i
    by_cases hlt : i < ds.length
    · obtain ⟨go, w3⟩ := w1 ds[i] (List.getElem?_eq_getElem hlt)
      refine .inr ⟨go, fun σ2 H2 => ∃ Γ2 W2 G2, Step F.K F.T G1 W1 H1 G2 W2 H2 ∧ Slots F.K G2 Γ2 σ2 ∧ I (i + 1) Γ2 W2, fun σ2 H2 q => ⟨ds.length - (i + 1), by omega, rfl, hlt, q⟩, fun x H'' y => ?_⟩
      obtain ⟨s2, y2⟩ := w3 x H'' y
      obtain ⟨Γ'', ts, hg, hb⟩ := hs i ds[i] Γ' W' (List.getElem?_eq_getElem hlt) inv
      refine hg G' H'' x σ' _ sl' s2.hk.sub y2 fun σ3 sl3 _ => ?_
      refine hb G' H'' σ3 _ sl3 s2.hk ⟨fun Γ4 W4 G4 H4 σ4 h4 t4 sl4 => ⟨Γ4, W4, G4, (st.trans s2).trans t4, sl4, h4⟩, fun d W4 v G4 H4 h4 t4 r4 => k.rt d W4 v G4 H4 h4 (s1.trans ((st.trans s2).trans t4)) r4, fun Γ4 W4 G4 H4 σ4 h4 t4 sl4 => k.nx Γ4 W4 G4 H4 σ4 h4 (s1.trans ((st.trans s2).trans t4)) sl4,
        fun Γ4 W4 G4 H4 σ4 h4 t4 sl4 => ⟨Γ4, W4, G4, (st.trans s2).trans t4, sl4, h4⟩, fun c W4 G4 H4 h4 t4 => k.er c W4 G4 H4 h4 (s1.trans ((st.trans s2).trans t4))⟩
    · have e : i = ds.length := by omega
      subst e
      exact .inl ⟨w2 (Nat.le_refl _), k.nx Γ' W' G' H' σ' (hd Γ' W' inv) (s1.trans st) sl'⟩⟩
theorem s1_while {body : List Stmt} (I : Nat → Ga → OW → Prop) (m0 : Nat) (h0 : I m0 Γ W)
    (hs : ∀ m Γ' W', I m Γ' W' → ∃ r W2, ET F c Γ' W' (.ok r) W2 ∧ (r = true → SS F body Γ' W2 { A with nx := fun Γ2 W3 => ∃ m', m' < m ∧ I m' Γ2 W3, ct := fun Γ2 W3 => ∃ m', m' < m ∧ I m' Γ2 W3, bk := A.nx }) ∧ (r = false → A.nx Γ' W2)) : S1 F (.While c body [] pos) Γ W A :=
  fun G H σ De sl hk k => ⟨tWhile (cT F c) (cSs F body), fun X hX => ps_while hX.own (cT_pt hX.toSat) (cSs_pss hX), by
    refine ⟨fun m σ' H' => ∃ Γ' W' G', Step F.K F.T G W H G' W' H' ∧ Slots F.K G' Γ' σ' ∧ I m Γ' W', ⟨m0, Γ, W, G, .refl hk, sl, h0⟩, ?_⟩
    rintro m σ' H' ⟨Γ', W', G', st, sl', inv⟩
    obtain ⟨r, W2, ht, h1, h2⟩ := hs m Γ' W' inv
    refine ht G' H' σ' _ sl' st.hk fun G2 H2 s2 => ?_
    cases r with
    | true =>
      rw [if_pos rfl]
      refine ⟨fun σ3 H3 => ∃ m', m' < m ∧ ∃ Γ3 W3 G3, Step F.K F.T G W H G3 W3 H3 ∧ Slots F.K G3 Γ3 σ3 ∧ I m' Γ3 W3, fun σ3 H3 ⟨m', hm, q⟩ => ⟨m', hm, q⟩, ?_⟩
      refine h1 rfl G2 H2 σ' _ (sl'.mono s2.le) s2.hk ⟨fun Γ4 W4 G4 H4 σ4 ⟨m', hm, h4⟩ t4 sl4 => ⟨m', hm, Γ4, W4, G4, (st.trans s2).trans t4, sl4, h4⟩, fun d W4 v G4 H4 h4 t4 r4 => k.rt d W4 v G4 H4 h4 ((st.trans s2).trans t4) r4, fun Γ4 W4 G4 H4 σ4 h4 t4 sl4 => k.nx Γ4 W4 G4 H4 σ4 h4 ((st.trans s2).trans t4) sl4,
        fun Γ4 W4 G4 H4 σ4 ⟨m', hm, h4⟩ t4 sl4 => ⟨m', hm, Γ4, W4, G4, (st.trans s2).trans t4, sl4, h4⟩, fun c W4 G4 H4 h4 t4 => k.er c W4 G4 H4 h4 ((st.trans s2).trans t4)⟩
    | false =>
      rw [if_neg Bool.false_ne_true]
      exact k.nx Γ' W2 G2 H2 σ' (h2 rfl) (st.trans s2) (sl'.mono s2.le)⟩
end
end Sh
set_option Elab.async false
set_option linter.all false
set_option maxRecDepth 100000
set_option maxHeartbeats 1000000
set_option autoImplicit false
/-! ShF: what a def promises (its arguments as data, what is owned, what comes back), calls. -/
namespace Sh
open PySem PySem.Spec PyProof.Rows L2

/-- a def's law: arguments, owned, what comes back, owned behind -/
abbrev Law := List D → OW → Out → OW → Prop
def spOf (K : PySem.W.Frag) (T : Tb) (S : Law) : Sp := fun vs H Q E => ∃ G W ds o W', Hk K T G W H ∧ Rps K G vs ds ∧ S ds W o W' ∧ (match o with
  | .ok d => ∀ v G' H', Step K T G W H G' W' H' → Rp K G' v d → Q v H'
  | .er c => ∀ G' H', Step K T G W H G' W' H' → E (.ref c) none H')
/-- some that is owned is forgotten -/
def Dn (W W' : OW) : Prop := ∃ L, W.Perm (W' ++ L)
theorem Dn.refl (W : OW) : Dn W W := ⟨[], by rw [List.append_nil]⟩
theorem Dn.nil (W : OW) : Dn W [] := ⟨W, .refl _⟩
theorem Dn.cons {W W' : OW} (h : Dn W W') (p : Addr × AO) : Dn (p :: W) W' := by
  obtain ⟨L, q⟩ := h
  exact ⟨p :: L, (q.cons p).trans List.perm_middle.symm⟩
theorem Dn.step {K : PySem.W.Frag} {T : Tb} {G H G' H' : Hp} {W W1 W' : OW} (h : Dn W1 W') (s : Step K T G W H G' W1 H') : Step K T G W H G' W' H' := by
  obtain ⟨L, q⟩ := h
  exact (s.perm (List.Perm.refl _) q).drop (List.sublist_append_left W' L)
def AEof (o : Out) (W' : OW) : AE where
  nx := fun _ W2 => o = .ok .non ∧ Dn W2 W'
  rt := fun d W2 => o = .ok d ∧ Dn W2 W'
  er := fun c W2 => o = .er c ∧ Dn W2 W'
/-- the names' data at the entry -/
def startG (N : List Str) (ds : List D) : Ga := ds.map some ++ List.replicate (N.length - ds.length) none
theorem slots_start {K : PySem.W.Frag} {G : Hp} {N : List Str} {vs : List V} {ds : List D} (r : Rps K G vs ds) : Slots K G (startG N ds) (L2.start N vs) := by
  unfold startG L2.start
  refine ⟨by simp [r.1], fun i d h => ?_⟩
  by_cases hi : i < ds.length
  · rw [List.getElem?_append_left (by simpa using hi), List.getElem?_map] at h
    cases e : ds[i]? with
    | none =>
      rw [e] at h
      cases h
    | some x =>
      rw [e] at h
      cases h
      obtain ⟨v, e1, r1⟩ := r.get e
      refine ⟨v, ?_, r1⟩
      rw [List.getElem?_append_left (by rw [List.length_map, r.1]; exact hi), List.getElem?_map, e1]
      rfl
  · rw [List.getElem?_append_right (by simpa using hi), List.getElem?_replicate] at h
    split at h <;> cases h
section
variable {P : Program} {w : World} {K : PySem.W.Frag} {mg : Str → Option Value} {base : Heap} {T : Tb}
/-- THE RULE: a def by its body -/
theorem fn_def {x qual : Str} {st : Stmt} {f : Addr} {fd : FuncData} {N ps : List Str} {k : Nat} {S : Law} (Fu : Fun K x qual st f fd) (Sc : FnScope N ps (defScope st)) (hl : ∀ ds W o W', S ds W o W' → ds.length = ps.length)
    (body : ∀ (cl : List (Str × Addr)) (E : XK) (ds : List D) (W : OW) (o : Out) (W' : OW), S ds W o W' → SS ⟨P, w, K, mg, base, N, defScope st, k, fd.code, E, T, qual ++ ".<locals>.", some cl⟩ (defBody st) (startG N ds) W (AEof o W')) :
    FnOk P w K mg base (L2.CX P w) (k + 1) f fd ps (spOf K T S) := by
  obtain ⟨oc, od, kV, doc, pm, an, cdv, ct, osl, rfl, lk, hcd⟩ := Fu.ex
  refine fn_of lk hcd Sc (fun vs H Q E ⟨G, W, ds, o, W', hk, rs, hS, _⟩ => by rw [rs.1]; exact hl _ _ _ _ hS) fun A outer s H vs Q E hr ⟨G, W, ds, o, W', hk, rs, hS, hq⟩ => ?_
  obtain ⟨t, ht, q⟩ := body _ E ds W o W' hS G H (L2.start N vs) { nx := fun _ H' => Q .non H', rt := Q } (slots_start rs) hk
    ⟨fun Γ' W2 G' H' σ' ⟨e, dn⟩ st _ => by
        subst e
        exact hq .non G' H' (dn.step st) .non,
      fun d W2 v G' H' ⟨e, dn⟩ st r => by
        subst e
        exact hq v G' H' (dn.step st) r,
      fun Γ' W2 G' H' σ' h => h.elim, fun Γ' W2 G' H' σ' h => h.elim,
      fun c W2 G' H' ⟨e, dn⟩ st => by
        subst e
        exact hq G' H' (dn.step st)⟩
  refine ⟨t, ht _ ⟨⟨rfl, rfl, rfl, rfl, rfl, rfl, rfl, rfl, hr, rfl, ?_, rfl, fun l e => Option.some.inj e, fun _ _ => ⟨rfl, rfl, takes_of rfl rfl rfl rfl⟩⟩, Sc.nd, fun _ => rfl, ?_, ?_, rfl, rfl⟩, q⟩
  · exact passes_call (X := cxOf (L2.CX P w) P w K mg base N qual (defScope st) f cdv A outer s H E) (takes_of rfl rfl rfl rfl) fun cls d σ H h => h
  · exact passes_of (X := cxOf (L2.CX P w) P w K mg base N qual (defScope st) f cdv A outer s H E) rfl
  · exact takes_of rfl rfl rfl rfl
/-- the def that the module's name x holds keeps the law S -/
structure Fd (P : Program) (w : World) (K : PySem.W.Frag) (mg : Str → Option Value) (base : Heap) (T : Tb) (x : Str) (k : Nat) (n : Nat) (S : Law) : Prop where
  ex : ∃ (f : Addr) (fd : FuncData) (ps : List Str), mg x = some (.ref f) ∧ PySem.W.keepIn K (.ref f) = true ∧ Binds K fd ps [] ∧ ps.length = n ∧ FnOk P w K mg base (L2.CX P w) k f fd ps (spOf K T S)
theorem Fd.imp {x : Str} {k j n : Nat} {S S' : Law} (h : Fd P w K mg base T x k n S) (hk : k ≤ j) (hS : ∀ ds W o W', S' ds W o W' → S ds W o W') : Fd P w K mg base T x j n S' := by
  obtain ⟨f, fd, ps, h1, h2, h3, h4, h5⟩ := h.ex
  exact ⟨f, fd, ps, h1, h2, h3, h4, (h5.mono hk).imp fun vs H Q E ⟨G, W, ds, o, W', hk, rs, hs, hq⟩ => ⟨G, W, ds, o, W', hk, rs, hS _ _ _ _ hs, hq⟩⟩
end
/-- .. in a piece of code -/
abbrev CF.Fd (F : CF) (x : Str) (k n : Nat) (S : Law) : Prop := Sh.Fd F.P F.w F.K F.mg F.base F.T x k n S

section
variable {F : CF} {Γ : Ga} {W W1 W2 W3 : OW} {pos p : Pos} {a b c e : Expr} {d d1 d2 d3 : D} {o : Out} {A : AE}
theorem FnOk.cast {P P' : Program} {w w' : World} {K K' : PySem.W.Frag} {mg mg' : Str → Option Value} {base base' : Heap} {k : Nat} {f : Addr} {fd : FuncData} {ps : List Str} {sp : Sp} (h : FnOk P w K mg base (L2.CX P w) k f fd ps sp)
    (e1 : P' = P) (e2 : w' = w) (e3 : K' = K) (e4 : mg' = mg) (e5 : base' = base) : FnOk P' w' K' mg' base' (L2.CX P' w') k f fd ps sp := by
  subst e1 e2 e3 e4 e5
  exact h
/-- f(..): what is owned beside Wf stays -/
theorem ev_call {x : Str} {k : Nat} {es : List Expr} {ds : List D} {S : Law} {Wf Wf' Wr : OW} (h : F.Fd x k (e :: es).length S) (hkk : k ≤ F.k) (hg : GlS F x) (ha : EA F (e :: es) Γ W (.ok ds) W1) (hw : W1.Perm (Wf ++ Wr)) (hS : S ds Wf o Wf') (hw' : (Wf' ++ Wr).Perm W2)
    (hdb : (x == ("__debug__" : Str)) = false := by decide) (he : ∀ env, starEach (e :: es) env = (false, eval e env) :: starEach es env := by intro _; rfl) (hpl : ∀ env, (backTo pos (starEach es env)).any (·.1) = false := by intro _; rfl) : EV F (.Call (.Name x p) (e :: es) [] pos) Γ W o W2 := by
  obtain ⟨f, fd, ps, h1, h2, h3, h4, h5⟩ := h.ex
  refine fun G H σ Q sl hk kt => ⟨tCall (spOf F.K F.T S) [] F.E (cA F (e :: es)), fun X hX => pe_call (FnOk.cast h5 hX.P hX.w hX.K hX.mg hX.base) (hX.room.mono hkk) (hX.gl hg) (by rw [hX.mg]; exact h1) (by rw [hX.K]; exact h2) (by rw [hX.K]; exact h3) .nil hX.pass (cA_pa hX) hdb (he _) (hpl _),
    ha G H σ _ sl hk fun vs G1 H1 s1 r1 => ?_⟩
  rw [List.append_nil]
  have hk2 := s1.hk.perm hw
  have back : ∀ {G' H'}, Step F.K F.T G1 Wf H1 G' Wf' H' → Step F.K F.T G W H G' W2 H' := fun st => s1.trans ((st.more hk2).perm hw.symm hw')
  refine ⟨G1, Wf, ds, o, Wf', hk2.less (List.sublist_append_left _ _), r1, hS, ?_⟩
  cases o with
  | ok d => exact fun v G' H' st r => kt v G' H' (back st) r
  | er c => exact fun G' H' st => kt G' H' (back st)
theorem ev_call0 {x : Str} {k : Nat} {S : Law} {Wf Wf' Wr : OW} (h : F.Fd x k 0 S) (hkk : k ≤ F.k) (hg : GlS F x) (hw : W.Perm (Wf ++ Wr)) (hS : S [] Wf o Wf') (hw' : (Wf' ++ Wr).Perm W2) (hdb : (x == ("__debug__" : Str)) = false := by decide) : EV F (.Call (.Name x p) [] [] pos) Γ W o W2 := by
  obtain ⟨f, fd, ps, h1, h2, h3, h4, h5⟩ := h.ex
  refine fun G H σ Q sl hk kt => ⟨tCall (spOf F.K F.T S) [] F.E tNil, fun X hX => pe_call0 (FnOk.cast h5 hX.P hX.w hX.K hX.mg hX.base) (hX.room.mono hkk) (hX.gl hg) (by rw [hX.mg]; exact h1) (by rw [hX.K]; exact h2) (by rw [hX.K]; exact h3) .nil hX.pass hdb, ?_⟩
  have hk2 := hk.perm hw
  have back : ∀ {G' H'}, Step F.K F.T G Wf H G' Wf' H' → Step F.K F.T G W H G' W2 H' := fun st => (st.more hk2).perm hw.symm hw'
  refine ⟨G, Wf, [], o, Wf', hk2.less (List.sublist_append_left _ _), .nil, hS, ?_⟩
  cases o with
  | ok d => exact fun v G' H' st r => kt v G' H' (back st) r
  | er c => exact fun G' H' st => kt G' H' (back st)
/-- a call that looks at nothing that is owned -/
theorem ev_pure {x : Str} {k : Nat} {es : List Expr} {ds : List D} {S : Law} (h : F.Fd x k (e :: es).length S) (hkk : k ≤ F.k) (hg : GlS F x) (ha : EA F (e :: es) Γ W (.ok ds) W1) (hS : S ds [] o [])
    (hdb : (x == ("__debug__" : Str)) = false := by decide) (he : ∀ env, starEach (e :: es) env = (false, eval e env) :: starEach es env := by intro _; rfl) (hpl : ∀ env, (backTo pos (starEach es env)).any (·.1) = false := by intro _; rfl) : EV F (.Call (.Name x p) (e :: es) [] pos) Γ W o W1 :=
  ev_call (Wf := []) (Wf' := []) (Wr := W1) h hkk hg ha (.refl _) hS (.refl _) hdb he hpl
theorem ev_pure0 {x : Str} {k : Nat} {S : Law} (h : F.Fd x k 0 S) (hkk : k ≤ F.k) (hg : GlS F x) (hS : S [] [] o []) (hdb : (x == ("__debug__" : Str)) = false := by decide) : EV F (.Call (.Name x p) [] [] pos) Γ W o W :=
  ev_call0 (Wf := []) (Wf' := []) (Wr := W) h hkk hg (.refl _) hS (.refl _) hdb
theorem perm_at {W : OW} {i : Nat} {q : Addr × AO} (h : W[i]? = some q) (q' : Addr × AO) : (q' :: W.eraseIdx i).Perm (W.set i q') := by
  induction W generalizing i with
  | nil => simp at h
  | cons w W ih =>
    cases i with
    | zero => exact .refl _
    | succ i =>
      rw [List.getElem?_cons_succ] at h
      rw [List.eraseIdx_cons_succ, List.set_cons_succ]
      exact (List.Perm.swap _ _ _).trans ((ih h).cons _)
/-- a call that looks at one thing that is owned, the i-th -/
theorem ev_at {x : Str} {k i : Nat} {q : Addr} {m m' : AO} {es : List Expr} {ds : List D} {S : Law} (h : F.Fd x k (e :: es).length S) (hkk : k ≤ F.k) (hg : GlS F x) (ha : EA F (e :: es) Γ W (.ok ds) W1) (hi : W1[i]? = some (q, m)) (hS : S ds [(q, m)] o [(q, m')])
    (hdb : (x == ("__debug__" : Str)) = false := by decide) (he : ∀ env, starEach (e :: es) env = (false, eval e env) :: starEach es env := by intro _; rfl) (hpl : ∀ env, (backTo pos (starEach es env)).any (·.1) = false := by intro _; rfl) : EV F (.Call (.Name x p) (e :: es) [] pos) Γ W o (W1.set i (q, m')) := by
  refine ev_call (Wf := [(q, m)]) (Wf' := [(q, m')]) (Wr := W1.eraseIdx i) h hkk hg ha ?_ hS (perm_at hi _) hdb he hpl
  have := perm_at hi (q, m)
  have e2 : W1.set i (q, m) = W1 := by
    refine List.ext_getElem? fun j => ?_
    by_cases hj : i = j
    · subst hj
      rw [List.getElem?_set_self (List.getElem?_eq_some_iff.mp hi).1, hi]
    · rw [List.getElem?_set_ne hj]
  rw [e2] at this
  exact this.symm

/-! ### raise -/
/-- what is known of an own exception class at C -/
structure XC (K : PySem.W.Frag) (mg : Str → Option Value) (x : Str) (C : Addr) : Prop where
  g : mg x = some (.ref C)
  x : PySem.W.excIn K C [.type "ValueError", .type "Exception", .type "BaseException", .type "object"] "ValueError.__new__" = true
  k : PySem.W.keepIn K (.ref C) = true
  b : PySem.W.subIn K (.ref C) (.type "BaseException") = some true
  t : PySem.W.typeIn K (.ref C) = some (.type "type")
theorem s1_raise {x m : Str} {j : Nat} {p2 p3 : Pos} {C : Addr} (h : XC F.K F.mg x C) (hg : GlS F x) (he : A.er C W) (hdb : (x == ("__debug__" : Str)) = false := by decide) : S1 F (.Raise (some (.Call (.Name x p) [.Constant (.str m) j p2] [] p3)) none pos) Γ W A :=
  fun G H σ De sl hk k => ⟨fun _ σ H => F.E (.ref C) none H, fun X hX => by
      refine ps_raise (W := fun cls d _ H => F.E cls d H) hX.calm hX.tk (pmk_own PySem.F.excBase_ValueError (by rw [hX.K]; exact h.x) (by rw [hX.mg]; exact h.g) (by rw [hX.K]; exact h.k) (raises_own (by rw [hX.K]; exact h.b) (by rw [hX.K]; exact h.t)) (hX.gl hg) hdb),
    k.er C W G H he (.refl hk)⟩
end
end Sh
set_option Elab.async false
set_option linter.all false
set_option maxRecDepth 100000
set_option maxHeartbeats 1000000
set_option autoImplicit false
/-! ShM: list comprehensions; what changes what is owned. -/
namespace Sh
open PySem PySem.Spec PyProof.Rows L2

def wipeG (Γ : Ga) : List Nat → Ga
  | [] => Γ
  | v :: vs => (wipeG Γ vs).set v none
theorem wipe_get {σ : L2.St} {i : Nat} : ∀ {vs : List Nat}, (i ∉ vs → (wipe σ vs)[i]? = σ[i]?) ∧ (i ∈ vs → i < σ.length → (wipe σ vs)[i]? = some none)
  | [] => ⟨fun _ => rfl, fun h => absurd h (by simp)⟩
  | v :: vs => by
    have ih := @wipe_get σ i vs
    refine ⟨fun h => ?_, fun h hl => ?_⟩
    · rw [List.mem_cons, not_or] at h
      show ((wipe σ vs).set v none)[i]? = _
      rw [List.getElem?_set_ne (Ne.symm h.1)]
      exact ih.1 h.2
    · show ((wipe σ vs).set v none)[i]? = _
      by_cases e : v = i
      · subst e
        rw [List.getElem?_set_self (by rw [wipe_length]; exact hl)]
      · rw [List.getElem?_set_ne e]
        exact ih.2 ((List.mem_cons.mp h).resolve_left (Ne.symm e)) hl
theorem wipe_but {σ σ' : L2.St} {ts vs : List Nat} (h : But ts (wipe σ vs) σ') (hs : ∀ t ∈ ts, t ∈ vs) : wipe σ' vs = wipe σ vs := by
  have hl : σ'.length = σ.length := by rw [h.1, wipe_length]
  refine List.ext_getElem? fun i => ?_
  by_cases hi : i ∈ vs
  · by_cases hlt : i < σ.length
    · rw [(wipe_get).2 hi (by rw [hl]; exact hlt), (wipe_get).2 hi hlt]
    · rw [List.getElem?_eq_none (by rw [wipe_length, hl]; omega), List.getElem?_eq_none (by rw [wipe_length]; omega)]
  · rw [(wipe_get).1 hi, h.2 i fun z => hi (hs i z)]
theorem wipeG_some {Γ : Ga} {i : Nat} {d : D} : ∀ {vs : List Nat}, (wipeG Γ vs)[i]? = some (some d) → Γ[i]? = some (some d) ∧ i ∉ vs
  | [], h => ⟨h, by simp⟩
  | v :: vs, h => by
    have h : ((wipeG Γ vs).set v none)[i]? = some (some d) := h
    by_cases e : v = i
    · subst e
      by_cases hv : v < (wipeG Γ vs).length
      · rw [List.getElem?_set_self hv] at h
        cases h
      · rw [List.getElem?_eq_none (by rw [List.length_set]; omega)] at h
        cases h
    · rw [List.getElem?_set_ne e] at h
      obtain ⟨h1, h2⟩ := wipeG_some h
      exact ⟨h1, by rw [List.mem_cons, not_or]; exact ⟨Ne.symm e, h2⟩⟩
theorem wipeG_length (Γ : Ga) : ∀ vs : List Nat, (wipeG Γ vs).length = Γ.length
  | [] => rfl
  | v :: vs => by
    show ((wipeG Γ vs).set v none).length = _
    rw [List.length_set, wipeG_length Γ vs]
theorem Slots.wipe {K : PySem.W.Frag} {G : Hp} {Γ : Ga} {σ : L2.St} (h : Slots K G Γ σ) (vs : List Nat) : Slots K G (wipeG Γ vs) (L2.wipe σ vs) := by
  refine ⟨by rw [wipeG_length, wipe_length, h.1], fun i d e => ?_⟩
  obtain ⟨e1, hi⟩ := wipeG_some e
  obtain ⟨v, e2, r⟩ := h.2 i d e1
  exact ⟨v, by rw [(wipe_get).1 hi]; exact e2, r⟩

/-- within a comprehension's block -/
abbrev CF.blk (F : CF) (scope : Scope) : CF := { F with sc := relS scope F.sc, E := E0, cl := none }
theorem Sat.blk {F : CF} {X : Cx} (h : Sat F X) (scope : Scope) (s : Shared) (H : Hp) (C : Addr) (cl : List (Str × Addr)) (fp : List Addr) : Sat (F.blk scope) (X.blk s H scope (compEnvC scope cl C X.env) fp) :=
  ⟨h.P, h.w, h.K, h.mg, h.base, h.N, by
    show relS scope X.env.scope = relS scope F.sc
    rw [h.sc], h.cd, h.room, h.calm, passL, h.qual, (fun _ e => nomatch e), fun _ e => nomatch e⟩
/-- a clause's tests -/
def cTs (F : CF) (ifs : List Expr) : TT := fun σ H Q => ∃ t : TT, (∀ X, Sat F X → PTs X ifs t) ∧ t σ H Q
theorem cTs_pts {F : CF} {X : Cx} {ifs : List Expr} (h : Sat F X) : PTs X ifs (cTs F ifs) := ⟨fun pins s σ H Q I ⟨_, ht, q⟩ => (ht X h).run pins s σ H Q I q⟩
def ETs (F : CF) (ifs : List Expr) (Γ : Ga) (W : OW) (r : Bool) (W' : OW) : Prop := ∀ (G H : Hp) (σ : L2.St) (Q : Bool → Hp → Prop), Slots F.K G Γ σ → Hk F.K F.T G W H → KontT F G W H (.ok r) W' Q → cTs F ifs σ H Q
section
variable {F : CF} {Γ : Ga} {W W1 W2 W3 : OW} {pos p : Pos} {a b c e : Expr} {d d1 d2 d3 : D} {o : Out} {A : AE}
theorem ets_nil : ETs F [] Γ W true W := fun G H σ Q sl hk k => ⟨tYes, fun X _ => pts_nil, k G H (.refl hk)⟩
theorem ets_one {r : Bool} (h : ET F c Γ W (.ok r) W1) : ETs F [c] Γ W r W1 := fun G H σ Q sl hk k => ⟨cT F c, fun X hX => pts_one (cT_pt hX), h G H σ Q sl hk k⟩

/-- one turn of a comprehension: from what is owned W and the items acc to W' and acc' -/
def Turn1 (F : CF) (tg : Expr) (ifs : List Expr) (elt : Expr) (vs : List Nat) (Γ0 : Ga) (d : D) (W : OW) (acc : List D) (W' : OW) (acc' : List D) : Prop :=
  ∃ Γ1 ts, EG F (SatG F) tg Γ0 d Γ1 ts ∧ (∀ t ∈ ts, t ∈ vs) ∧ ∃ r W1, ETs F ifs Γ1 W r W1 ∧ (r = true → ∃ y, EV F elt Γ1 W1 (.ok y) W' ∧ acc' = acc ++ [y]) ∧ (r = false → W1 = W' ∧ acc' = acc)
theorem lc_read {tg iter elt : Expr} {ifs : List Expr} {scope : Scope} {vs : List Nat} {ds : List D} {Wk : OW → Prop} (hi : EI F tg iter Γ W ds Wk W1) (acc : Nat → List D) (Ws : Nat → OW) (h0 : acc 0 = []) (hW0 : Ws 0 = W1) (hwk : ∀ i, i ≤ ds.length → Wk (Ws i))
    (hs : ∀ i d, ds[i]? = some d → Turn1 (F.blk scope) tg ifs elt vs (wipeG Γ vs) d (Ws i) (acc i) (Ws (i + 1)) (acc (i + 1))) (hz : ds.length < sizeLine) {G H : Hp} {σ : L2.St} {Q : VK} (sl : Slots F.K G Γ σ) (hk : Hk F.K F.T G W H)
    (k : ∀ p G' H', H p = none → Step F.K F.T G W H G' ((p, .lst (acc ds.length)) :: Ws ds.length) H' → Q (.ref p) H') : tLc (cI F tg iter) (cG (SatG (F.blk scope)) tg) (cTs (F.blk scope) ifs) (cE (F.blk scope) elt) vs σ H Q := by
  have hacc : ∀ i, i ≤ ds.length → (acc i).length ≤ i := by
    intro i
    induction i with
    | zero => intro _; rw [h0]; exact Nat.le_refl _
    | succ i ih =>
      intro hi'
      obtain ⟨Γ1, ts, _, _, r, Wx, _, h1, h2⟩ := hs i ds[i] (List.getElem?_eq_getElem hi')
      have := ih (by omega)
      cases r with
      | true =>
        obtain ⟨y, _, e⟩ := h1 rfl
        rw [e, List.length_append, List.length_singleton]
        omega
      | false =>
        rw [(h2 rfl).2]
        omega
  refine hi G H σ _ sl hk fun J G1 H1 s1 wl D hD => ?_
  have s2 := s1.hk.allocO (w := .lst []) (o := .lst []) hD Rps.nil
  have hD0 := s1.back hD
  refine ⟨fun i m H' => m = ds.length - i ∧ i ≤ ds.length ∧ ∃ G', Step F.K F.T G W H G' (Ws i ++ [(D, .lst (acc i))]) H' ∧ Le G1 G', ⟨ds.length, by simp, Nat.zero_le _, G1, ?_, Le.refl _⟩, ?_⟩
  · rw [h0, hW0]
    refine (s1.trans s2).perm (List.Perm.refl _) ?_
    exact (List.perm_append_comm (l₁ := [(D, AO.lst [])]) (l₂ := W1))
  · rintro i m H' ⟨rfl, hil, G', st, le⟩
    have hkW : Hk F.K F.T G' (Ws i) H' := st.hk.less (List.sublist_append_left _ _)
    obtain ⟨w1, w2⟩ := wl G' (Ws i) H' le hkW (hwk i hil) i
    by_cases hlt : i < ds.length
    · obtain ⟨go, w3⟩ := w1 ds[i] (List.getElem?_eq_getElem hlt)
      refine .inr ⟨go, fun H2 => ∃ G2, Step F.K F.T G W H G2 (Ws (i + 1) ++ [(D, .lst (acc (i + 1)))]) H2 ∧ Le G1 G2, fun H2 q => ⟨ds.length - (i + 1), by omega, rfl, hlt, q⟩, fun x H2 y => ?_⟩
      obtain ⟨s3, y3⟩ := w3 x H2 y
      obtain ⟨Γ1, ts, hg, hts, r, Wx, ht, h1, h2⟩ := hs i ds[i] (List.getElem?_eq_getElem hlt)
      have st3 := st.trans (s3.more st.hk)
      refine hg G' H2 x (L2.wipe σ vs) _ ((sl.mono st.le).wipe vs) s3.hk.sub y3 fun σ2 sl2 bt => ⟨wipe_but bt hts, ?_⟩
      refine ht G' H2 σ2 _ sl2 s3.hk fun G3 H3 s4 => ?_
      have st4 := st3.trans (s4.more st3.hk)
      cases r with
      | true =>
        rw [if_pos rfl]
        obtain ⟨y, he, ea⟩ := h1 rfl
        refine he G3 H3 σ2 _ (sl2.mono s4.le) s4.hk fun v G4 H4 s5 rv => ?_
        have st5 := st4.trans (s5.more st4.hk)
        have hix : (Ws (i + 1) ++ [(D, AO.lst (acc i))])[(Ws (i + 1)).length]? = some (D, .lst (acc i)) := by
          rw [List.getElem?_append_right (Nat.le_refl _), Nat.sub_self]
          rfl
        obtain ⟨_, ob, eo, ro⟩ := st5.hk.own _ (List.mem_of_getElem? hix)
        obtain ⟨ws, rfl, ro⟩ := ro.lst_inv
        have hlen := hacc i hil
        refine ⟨ws, eo, by rw [ro.1]; omega, G4, ?_, (le.trans s4.le).trans s5.le⟩
        have s6 := st5.hk.write (w' := .lst (acc (i + 1))) (o' := .lst (ws ++ [v])) hix (by rw [ea]; exact ro.snoc rv) (fun c q e => by
          have eo' : H4 D = some (.lst ws) := eo
          rw [eo'] at e
          cases e)
        have e6 : (Ws (i + 1) ++ [(D, AO.lst (acc i))]).set (Ws (i + 1)).length (D, .lst (acc (i + 1))) = Ws (i + 1) ++ [(D, .lst (acc (i + 1)))] := by
          rw [List.set_append_right _ _ (Nat.le_refl _), Nat.sub_self]
          rfl
        rw [e6] at s6
        exact st5.trans s6
      | false =>
        rw [if_neg Bool.false_ne_true]
        obtain ⟨e1, e2⟩ := h2 rfl
        subst e1
        rw [e2]
        exact ⟨G3, st4, le.trans s4.le⟩
    · have e : i = ds.length := by omega
      subst e
      exact .inl ⟨w2 (Nat.le_refl _), k D G' H' hD0 (st.perm (List.Perm.refl _) List.perm_append_comm)⟩
theorem en_lc {tg iter elt : Expr} {ifs : List Expr} {scope : Scope} {own : List (Str × Nat)} {ds : List D} {Wk : OW → Prop} (hN : F.N.Nodup) (ok : blkC F.N F.sc scope own = true) (hi : EI F tg iter Γ W ds Wk W1) (acc : Nat → List D) (Ws : Nat → OW) (h0 : acc 0 = []) (hW0 : Ws 0 = W1) (hwk : ∀ i, i ≤ ds.length → Wk (Ws i))
    (hs : ∀ i d, ds[i]? = some d → Turn1 (F.blk scope) tg ifs elt (own.map (·.2)) (wipeG Γ (own.map (·.2))) d (Ws i) (acc i) (Ws (i + 1)) (acc (i + 1))) (hz : ds.length < sizeLine) (hf : ∀ env x, foldedSetIterable iter env x = pure x := by intro _ _; rfl) :
    EN F (.ListComp elt [⟨tg, iter, ifs, 0⟩] scope pos) Γ W (acc ds.length) (Ws ds.length) :=
  fun G H σ Q sl hk k => ⟨tLc (cI F tg iter) (cG (SatG (F.blk scope)) tg) (cTs (F.blk scope) ifs) (cE (F.blk scope) elt) (own.map (·.2)), fun X hX => pe_lc hX.calm (by rw [hX.N]; exact hN) (cI_pi hX) (blkOk_by (by rw [hX.N, hX.sc]; exact ok))
      (fun s H C cl fp => cG_pg ⟨hX.blk scope s H C cl fp, by show X.N.Nodup; rw [hX.N]; exact hN⟩) (fun s H C cl fp => cTs_pts (hX.blk scope s H C cl fp)) (fun s H C cl fp => cE_pe (hX.blk scope s H C cl fp)) (hf _),
    lc_read hi acc Ws h0 hW0 hwk hs hz sl hk k⟩
/-- name = [..] on one line, the name a local -/
theorem s1_setLc (j : Nat) {y : Str} {py spos : Pos} {tg iter elt : Expr} {ifs : List Expr} {scope : Scope} {own : List (Str × Nat)} {ds : List D} {Wk : OW → Prop} (hN : F.N.Nodup) (hj : F.N[j]? = some y) (hy : F.sc.names.lookup y = some .local) (hkd : F.sc.kind = .function) (hl : (py.line == pos.line) = true)
    (hnm : (scope.names.any fun (n, k) => n == y && (k == .local || k == .cell)) = false) (ok : blkC F.N F.sc scope own = true) (hi : EI F tg iter Γ W ds Wk W1) (acc : Nat → List D) (Ws : Nat → OW) (h0 : acc 0 = []) (hW0 : Ws 0 = W1) (hwk : ∀ i, i ≤ ds.length → Wk (Ws i))
    (hs : ∀ i d, ds[i]? = some d → Turn1 (F.blk scope) tg ifs elt (own.map (·.2)) (wipeG Γ (own.map (·.2))) d (Ws i) (acc i) (Ws (i + 1)) (acc (i + 1))) (hz : ds.length < sizeLine)
    (hA : ∀ q, A.nx (Γ.set j (some (.ptr q))) ((q, .lst (acc ds.length)) :: Ws ds.length)) (hf : ∀ env x, foldedSetIterable iter env x = pure x := by intro _ _; rfl) :
    S1 F (.Assign [.Name y py] (.ListComp elt [⟨tg, iter, ifs, 0⟩] scope pos) spos) Γ W A :=
  fun G H σ De sl hk k => ⟨tAsg (tLc (cI F tg iter) (cG (SatG (F.blk scope)) tg) (cTs (F.blk scope) ifs) (cE (F.blk scope) elt) (List.map (fun z : Str × Nat => z.2) own)) (gName j), fun X hX => ps_setLc hX.calm hX.nd (by rw [hX.N]; exact hj) (by rw [hX.sc]; exact hy) (sw_true (by rw [hX.sc]; exact hkd) (by rw [hX.sc]; exact hy) hl hnm) (cI_pi hX.toSat) (blkOk_by (by rw [hX.N, hX.sc]; exact ok))
      (fun s H C cl fp => cG_pg ⟨hX.toSat.blk scope s H C cl fp, by show X.N.Nodup; rw [hX.N]; exact hN⟩) (fun s H C cl fp => cTs_pts (hX.toSat.blk scope s H C cl fp)) (fun s H C cl fp => cE_pe (hX.toSat.blk scope s H C cl fp)) (hf _),
    lc_read (Q := fun x H1 => gName j x σ H1 De.nx) hi acc Ws h0 hW0 hwk hs hz sl hk fun q G' H' _ s => k.nx _ _ G' H' _ (hA q) s ((sl.mono s.le).put j (.ptr q))⟩

/-! ### what is owned changes -/
/-- xs.append(y) -/
theorem evr_append {i : Nat} {q : Addr} {ds : List D} {apos : Pos} {P : D → OW → Prop} (ho : EV F a Γ W (.ok (.ptr q)) W1) (he : EV F e Γ W1 (.ok d) W2) (h1 : W1[i]? = some (q, .lst ds)) (h2 : W2[i]? = some (q, .lst ds)) (hz : ds.length < sizeLine) (hp : P .non (W2.set i (q, .lst (ds ++ [d]))))
    (hbase : ∀ env, attributeBase a "append" env (eval a env) = eval a env := by intro _; rfl)
    (hfew : ∀ env, ((backTo pos (starEach [e] env)).all (fun x => !x.1) && (backToKw pos (keywordEach [] env)).all (fun x => x.1.isSome) && decide ([e].length + ([] : List Keyword).length + (if ([] : List Keyword).isEmpty then 0 else 1) < 30)) = true := by intro _; rfl)
    (hline : (apos.endLine == pos.line) = true := by rfl) (hs : ∀ env, starEach [e] env = (false, eval e env) :: starEach [] env := by intro _; rfl) : EVR F (.Call (.Attribute a "append" apos) [e] [] pos) Γ W P :=
  fun G H σ Q sl hk k => ⟨tBM F.K "list" rAppend (cE F a) (cA F [e]), fun X hX => hX.K ▸ pe_bm PySem.F.plainAttrs_list PySem.F.slot_list_append PySem.F.type_list_append mt_append (cE_pe hX) (cA_pa hX) (hbase _) (hfew _) hline (hs _) rfl,
    ho G H σ _ sl hk fun x G1 H1 s1 r1 => ⟨ty_list (F := F) (.own i h1) G1 H1 x s1.hk r1, (ea_cons he ea_nil hs) G1 H1 σ _ (sl.mono s1.le) s1.hk fun vs G2 H2 s2 rs => by
      obtain ⟨v, rfl, rv⟩ := rs.one
      obtain rfl := r1.ptr_inv
      obtain ⟨_, ob, eo, ro⟩ := s2.hk.own _ (List.mem_of_getElem? h2)
      obtain ⟨ws, rfl, ro⟩ := ro.lst_inv
      have eo' : H2 q = some (.lst ws) := eo
      exact ⟨q, ws, v, rfl, rfl, eo, by rw [ro.1]; exact hz, k _ _ _ _ _ hp ((s1.trans s2).trans (s2.hk.write h2 (ro.snoc rv) fun c z e' => by
        rw [eo'] at e'
        cases e')) .non⟩⟩⟩
/-- xs.pop() -/
theorem ev_pop {i : Nat} {q : Addr} {ds : List D} {apos : Pos} (ho : EV F a Γ W (.ok (.ptr q)) W1) (h1 : W1[i]? = some (q, .lst (ds ++ [d]))) (hbase : ∀ env, attributeBase a "pop" env (eval a env) = eval a env := by intro _; rfl) (hline : (apos.endLine == pos.line) = true := by rfl) :
    EV F (.Call (.Attribute a "pop" apos) [] [] pos) Γ W (.ok d) (W1.set i (q, .lst ds)) :=
  fun G H σ Q sl hk k => ⟨tBM0 F.K "list" rPop (cE F a), fun X hX => hX.K ▸ pe_bm0 PySem.F.plainAttrs_list PySem.F.slot_list_pop PySem.F.type_list_pop mt_pop (cE_pe hX) (hbase _) hline,
    ho G H σ _ sl hk fun x G1 H1 s1 r1 => ⟨ty_list (F := F) (.own i h1) G1 H1 x s1.hk r1, by
      obtain rfl := r1.ptr_inv
      obtain ⟨_, ob, eo, ro⟩ := s1.hk.own _ (List.mem_of_getElem? h1)
      obtain ⟨ws, rfl, ro⟩ := ro.lst_inv
      have eo' : H1 q = some (.lst ws) := eo
      have hl : ws.length = ds.length + 1 := by rw [ro.1, List.length_append, List.length_singleton]
      obtain ⟨v, ev, rv⟩ := ro.get (i := ds.length) (d := d) (by rw [List.getElem?_append_right (Nat.le_refl _), Nat.sub_self]; rfl)
      refine ⟨q, ws, v, rfl, rfl, eo, by rw [hl, Nat.add_sub_cancel]; exact ev, k v _ _ (s1.trans (s1.hk.write h1 (o' := .lst ws.dropLast) (w' := .lst ds) ?_ fun c z e' => ?_)) rv⟩
      · have := ro.take ds.length
        rw [List.take_left'  rfl] at this
        rw [List.dropLast_eq_take, hl, Nat.add_sub_cancel]
        exact this
      · rw [eo'] at e'
        cases e'⟩⟩
/-- xs.pop(0) -/
theorem ev_pop0 {i : Nat} {q : Addr} {ds : List D} {apos : Pos} (ho : EV F a Γ W (.ok (.ptr q)) W1) (he : EV F e Γ W1 (.ok (.int 0)) W2) (h1 : W1[i]? = some (q, .lst (d :: ds))) (h2 : W2[i]? = some (q, .lst (d :: ds)))
    (hbase : ∀ env, attributeBase a "pop" env (eval a env) = eval a env := by intro _; rfl)
    (hfew : ∀ env, ((backTo pos (starEach [e] env)).all (fun x => !x.1) && (backToKw pos (keywordEach [] env)).all (fun x => x.1.isSome) && decide ([e].length + ([] : List Keyword).length + (if ([] : List Keyword).isEmpty then 0 else 1) < 30)) = true := by intro _; rfl)
    (hline : (apos.endLine == pos.line) = true := by rfl) (hs : ∀ env, starEach [e] env = (false, eval e env) :: starEach [] env := by intro _; rfl) : EV F (.Call (.Attribute a "pop" apos) [e] [] pos) Γ W (.ok d) (W2.set i (q, .lst ds)) :=
  fun G H σ Q sl hk k => ⟨tBM F.K "list" rPopAt (cE F a) (cA F [e]), fun X hX => hX.K ▸ pe_bm PySem.F.plainAttrs_list PySem.F.slot_list_pop PySem.F.type_list_pop mt_popAt (cE_pe hX) (cA_pa hX) (hbase _) (hfew _) hline (hs _) rfl,
    ho G H σ _ sl hk fun x G1 H1 s1 r1 => ⟨ty_list (F := F) (.own i h1) G1 H1 x s1.hk r1, (ea_cons he ea_nil hs) G1 H1 σ _ (sl.mono s1.le) s1.hk fun vs G2 H2 s2 rs => by
      obtain ⟨v0, rfl, r0⟩ := rs.one
      obtain rfl := r1.ptr_inv
      obtain ⟨_, ob, eo, ro⟩ := s2.hk.own _ (List.mem_of_getElem? h2)
      obtain ⟨ws, rfl, ro⟩ := ro.lst_inv
      obtain ⟨v, ws, rfl, rv, rt⟩ := ro.inv
      have eo' : H2 q = some (.lst (v :: ws)) := eo
      refine ⟨q, v :: ws, 0, 0, v, rfl, by rw [r0.int_inv], eo, by decide, by decide, ?_, rfl, k v _ _ ((s1.trans s2).trans (s2.hk.write h2 (o' := .lst ws) (w' := .lst ds) rt fun c z e' => ?_)) rv⟩
      · simp [seqIndex?]
      · rw [eo'] at e'
        cases e'⟩⟩
/-- xs[k] = e -/
theorem s1_store {i j : Nat} {q : Addr} {ds : List D} {k : Int} {so sk : Expr} {p2 : Pos} (he : EV F e Γ W (.ok d) W1) (ho : EV F so Γ W1 (.ok (.ptr q)) W2) (hk' : EV F sk Γ W2 (.ok (.int k)) W3) (hi : W3[i]? = some (q, .lst ds)) (hj : ixN ds.length k = some j) (hA : A.nx Γ (W3.set i (q, .lst (ds.set j d))))
    (ha : ∀ env v, assign (.Subscript so sk p2) env v = (do
      let ov ← holding [v] (eval so env)
      let iv ← holding [v, ov] (eval sk env)
      standAt p2
      holding [v, ov, iv] (setItem ov iv v)
      release [v, ov, iv] []) := by intro _ _; rfl)
    (hs : ∀ env, swapsWithSole [.Subscript so sk p2] e pos.line env = pure false := by intro _; rfl) (hw : ∀ env, swappedStores [.Subscript so sk p2] e env = pure none := by intro _; rfl)
    (h1 : ∀ env, (assignEach [.Subscript so sk p2] env).map (·.2) = [assign (.Subscript so sk p2) env] := by intro _; rfl) : S1 F (.Assign [.Subscript so sk p2] e pos) Γ W A :=
  fun G H σ De sl hk kk => ⟨tAsg (cE F e) (gSub (cE F so) (cE F sk) rSetL), fun X hX => ps_asg (cE_pe hX.toSat) (pg_sub (cE_pe hX.toSat) (cE_pe hX.toSat) set_list (ha _)) (hs _) (hw _) (h1 _),
    he G H σ _ sl hk fun v G1 H1 s1 r1 => ho G1 H1 σ _ (sl.mono s1.le) s1.hk fun x G2 H2 s2 r2 => hk' G2 H2 σ _ (sl.mono (s1.le.trans s2.le)) s2.hk fun y G3 H3 s3 r3 => by
      obtain rfl := r2.ptr_inv
      obtain ⟨_, ob, eo, ro⟩ := s3.hk.own _ (List.mem_of_getElem? hi)
      obtain ⟨ws, rfl, ro⟩ := ro.lst_inv
      have eo' : H3 q = some (.lst ws) := eo
      have st := (s1.trans s2).trans s3
      have st2 := st.trans (s3.hk.write hi (o' := .lst (ws.set j v)) (w' := .lst (ds.set j d)) (ro.set j (r1.mono (s2.le.trans s3.le))) fun c z e' => by
        rw [eo'] at e'
        cases e')
      exact ⟨q, ws, k, j, rfl, r3.int_inv, eo, by rw [ro.1]; exact hj, kk.nx _ _ _ _ _ hA st2 (sl.mono st.le)⟩⟩
end
end Sh
set_option Elab.async false
set_option linter.all false
set_option maxRecDepth 100000
set_option maxHeartbeats 1000000
set_option autoImplicit false
/-! ShG: generator expressions: their making, their turns. -/
namespace Sh
open PySem PySem.Spec PyProof.Rows L2 GenW

theorem Hk.grow {K : PySem.W.Frag} {T : Tb} {G H : Hp} {W : OW} (h : Hk K T G W H) {P : Addr} {ps ps' : Array Value} (e : H P = some (.tbl ps)) (t : TriplesOk ps'.toList) (hl : P ∉ T.l.map (·.1)) : Step K T G W H G W (upd H P (.tbl ps')) := by
  have nG : ∀ a o, H a = some o → (∀ qs, o ≠ .tbl qs) → a ≠ P := fun a o q n z => by
    subst z
    rw [e] at q
    exact n ps (Option.some.inj q).symm
  refine ⟨.refl G, fun _ _ q => .inl q, fun _ q => .inl q, fun a o q _ n => by rw [upd_ne (nG a o q n)]; exact q, fun a o q => ?_, fun a o q => ?_, h.ntb, h.nod, fun p hp => ?_, fun P' hP' => ?_, fun p hp => ?_, fun p hp qs hq => ?_⟩
  · by_cases ha : a = P
    · subst ha
      exact ⟨_, upd_same⟩
    · exact ⟨o, by rw [upd_ne ha]; exact q⟩
  · rw [upd_ne (nG a o (h.sub a o q) fun qs z => h.ntb a qs (by rw [q, z]))]
    exact h.sub a o q
  · obtain ⟨h1, o, h2, h3⟩ := h.own p hp
    exact ⟨h1, o, by rw [upd_ne (nG _ o h2 h3.ntb)]; exact h2, h3⟩
  · by_cases ha : P' = P
    · subst ha
      exact ⟨ps', upd_same, t⟩
    · obtain ⟨qs, h1, h2⟩ := h.tab.1 P' hP'
      exact ⟨qs, by rw [upd_ne ha]; exact h1, h2⟩
  · obtain ⟨qs, h1, h2, h3⟩ := h.tab.2.1 p hp
    have ne : p.1 ≠ P := fun z => hl (z ▸ List.mem_map_of_mem hp)
    refine ⟨qs, by rw [upd_ne ne]; exact h1, h2, fun pos cv hc => ?_⟩
    obtain ⟨c, e1, e2⟩ := h3 pos cv hc
    exact ⟨c, e1, by rw [upd_ne (nG c _ e2 fun qs => LamX.codeO_ne qs)]; exact e2⟩
  · have ne : p.1 ≠ P := fun z => hl (z ▸ List.mem_map_of_mem hp)
    rw [upd_ne ne] at hq
    exact h.tab.2.2 p hp qs hq

/-- the context of a generator expression that was made in the state s, heap H, its frame ge, its iterator's objects fp -/
abbrev gnCx (X : Cx) (s : Shared) (H : Hp) (ge : Env) (fp : List Addr) (pn : List (Addr × Obj)) (A : Around) : Cx :=
  { X with s_0 := s, H_0 := H, env := ge, outer := X.stack, stack := ge :: X.stack, ex := fp, A := A, fn := fun _ => false, pn := pn, xe := fun _ _ => False }
/-- within a generator expression -/
abbrev CF.gen (F : CF) (scope : Scope) (cd : Value) : CF := { F with sc := scope, cd := cd, k := F.k - 3, E := E0, q := F.q ++ "<genexpr>.", cl := none }
/-- a generator expression's own scope -/
structure GScp (scope : Scope) : Prop where
  co : scope.isCoroutine = false
  cell : ∀ y ∈ scope.names, y.2 ≠ .cell
  dot : scope.names.lookup (".0" : Str) = some NameKind.local
section
variable {X : Cx} {pins : List (Addr × Obj)} {σ : L2.St} {H : Hp} {s : Shared}
theorem gn_start {scope : Scope} {own : List (Str × Nat)} {fp : List Addr} {A : Around} {code : Value} {h' : Heap} {m : Str → Option Value} {ob : Obj} {gs : Array GenState} {tk : Nat} (I : Inv X pins σ H s) (ok : BlkOk X.N X.env.scope scope own) (gk : GScp scope) (hN : X.N.Nodup) (hfp : ∀ b ∈ fp, FpOk X pins H b ∧ b < s.heap.objs.size)
    (hA : A.frames = some (genEnv scope (cloFrom X.env.cells scope.names []) s.heap.objs.size code builtinsNs X.env :: X.stack)) (hh : X.calm = true → A.handled = none)
    (hn : h'.Ns s.heap.objs.size m) (hs : Heap.SameBut s.heap.objs.size (s.heap.push { cls := .type "frame", data := .dict #[] }) h') (hd : ∀ v, ob.data ≠ .cell v) (hob : ob.isFreed = false) (hg : AllBare gs) :
    Inv (gnCx X s H (genEnv scope (cloFrom X.env.cells scope.names []) s.heap.objs.size code builtinsNs X.env) fp [(h'.objs.size, ob)] A) [] (wipe σ (own.map (·.2))) H { s with gens := gs, toks := tk, heap := h'.push ob } := by
  have hfree : ∀ y ∈ scope.names, y.2 = .free → ∃ c, X.env.cells.lookup y.1 = some c := fun y hy e => by
    rcases ok.free y hy e with k | k
    · exact I.ok.has _ (.inl k)
    · exact I.ok.has _ (.inr k)
  generalize hge : genEnv scope (cloFrom X.env.cells scope.names []) s.heap.objs.size code builtinsNs X.env = ge at hA ⊢
  have hL : ge.locals = s.heap.objs.size := by rw [← hge]; rfl
  have hcl : ge.cells = cloFrom X.env.cells scope.names [] := by rw [← hge]; rfl
  have hsc : ge.scope = scope := by rw [← hge]; rfl
  have hsz : h'.objs.size = s.heap.objs.size + 1 := by rw [hs.1, Heap.size_push]
  have kp : ∀ b o, s.heap.get? b = some o → (h'.push ob).get? b = some o := fun b o e => Heap.get?_push_of_some _ (hs.extBut b o (Nat.ne_of_lt (Heap.lt_size e)) (Heap.get?_push_of_some _ e))
  have cm : ∀ {y c}, ge.cells.lookup y = some c → X.env.cells.lookup y = some c ∧ c < s.heap.objs.size ∧ (y, NameKind.free) ∈ scope.names := fun {y c} e => by
    rw [hcl] at e
    rcases cloFrom_mem (PySem.mem_of_lookup e) with hm | ⟨h1, rfl⟩
    · cases hm
    · obtain ⟨c, hc⟩ := hfree _ h1 rfl
      rw [hc]
      obtain ⟨w, z⟩ := I.cell _ _ hc
      exact ⟨rfl, z.lt, h1⟩
  have look : ∀ {y}, scope.names.lookup y = some .free → ∃ c, ge.cells.lookup y = some c ∧ X.env.cells.lookup y = some c := fun {y} hl => by
    have hy : (y, NameKind.free) ∈ scope.names := PySem.mem_of_lookup hl
    obtain ⟨c', e'⟩ := mem_lookup (cloFrom_has (cells := X.env.cells) (acc := []) hy)
    rw [← hcl] at e'
    exact ⟨c', e', (cm e').1⟩
  have okB : (gnCx X s H ge fp [(h'.objs.size, ob)] A).Ok := by
    refine ⟨I.ok.mod, by show ge.scope.kind = _; rw [hsc]; exact ok.kind, by show ge.globals = _; rw [← hge]; exact I.ok.glob, by show ge.builtins = _; rw [← hge]; rfl, by show s.heap.objs.size ≤ ge.locals; rw [hL]; exact Nat.le_refl _,
      fun y z c e1 e2 => I.ok.inj y z c (cm e1).1 (cm e2).1, fun y hy => ?_, fun y c z e => (by cases z), hh, hA, .inr ⟨rfl, by show ge.frame = some ge.locals; rw [← hge]; rfl⟩, fun b hb => ⟨?_, fun y c e z => ?_⟩, I.bs, Nat.le_trans I.ok.bsz I.sz, fun b o e hb => ?_, fun b hb z => ?_, I.stack, I.stkFree⟩
    · show ∃ c, ge.cells.lookup y = some c
      have hy : ge.scope.names.lookup y = some .cell ∨ ge.scope.names.lookup y = some .free := hy
      rw [hsc] at hy
      rcases hy with hy | hy
      · exact absurd rfl (gk.cell _ (PySem.mem_of_lookup hy))
      · obtain ⟨c, h1, _⟩ := look hy
        exact ⟨c, h1⟩
    · show b ≠ ge.locals
      rw [hL]; exact Nat.ne_of_lt (hfp b hb).2
    · exact (hfp b hb).1.2.2.2.2.1 y c (cm e).1 z
    · rcases (hfp b hb).1.2.2.2.1 with z | z
      · exact I.ok.noex b o e z
      · exact absurd (Nat.lt_of_lt_of_le (Heap.lt_size e) (Nat.le_trans I.ok.bsz z)) (Nat.lt_irrefl _)
    · rcases List.mem_cons.mp (I.stkSub b z) with z | z
      · exact (hfp b hb).1.2.1 z
      · exact (hfp b hb).1.2.2.1 z
  have hget : (h'.push ob).get? h'.objs.size = some ob := Heap.get?_push_size _ hob
  refine ⟨okB, rfl, hg, Un.kept kp, ⟨m, ?_, fun i y av e1 e2 e3 => ?_⟩, fun y c e => ?_, ?_, fun y c e => ?_, fun p hp => ?_, I.hok.kept kp, by rw [wipe_length]; exact I.len⟩
  · show Heap.Ns _ ge.locals _
    rw [hL]
    exact hn.push _
  · obtain ⟨e2, hne⟩ := wipe_some e2
    have e3 : scope.names.lookup y = some .local ∨ scope.names.lookup y = some .cell ∨ scope.names.lookup y = some .free := by
      have e3 : ge.scope.names.lookup y = some .local ∨ ge.scope.names.lookup y = some .cell ∨ ge.scope.names.lookup y = some .free := e3
      rwa [hsc] at e3
    have hfr : scope.names.lookup y = some .free := by
      rcases e3 with e3 | e3 | e3
      · exfalso
        rcases ok.own _ (PySem.mem_of_lookup e3) (.inl rfl) with e' | e'
        · obtain ⟨p, hp, hpy⟩ := List.mem_map.mp e'
          have e4 := ok.ix p hp
          have : p.1 = y := hpy
          rw [this] at e4
          exact hne (List.mem_map.mpr ⟨p, hp, nodup_ix hN e4 e1⟩)
        · exact e' (List.mem_of_getElem? e1)
      · exact absurd rfl (gk.cell _ (PySem.mem_of_lookup e3))
      · exact e3
    obtain ⟨m0, hn0, hl0⟩ := I.loc
    have hvis : Vis X.env.scope y := (ok.free _ (PySem.mem_of_lookup hfr) rfl).elim (fun k => .inr (.inl k)) (fun k => .inr (.inr k))
    obtain ⟨w, r, q⟩ := hl0 i y av e1 e2 hvis
    refine ⟨w, r, .inr ⟨.inr (by show ge.scope.names.lookup y = _; rw [hsc]; exact hfr), ?_⟩⟩
    obtain ⟨c, h1, h2⟩ := look hfr
    rcases q with ⟨k, _⟩ | ⟨_, c', e', z⟩
    · have k : X.env.scope.names.lookup y = some .local := k
      rcases ok.free _ (PySem.mem_of_lookup hfr) rfl with k' | k' <;> rw [show X.env.scope.names.lookup y = _ from k'] at k <;> cases k
    · rw [h2] at e'; cases e'
      exact ⟨c, h1, z.keeps kp⟩
  · obtain ⟨w, z⟩ := I.cell y c (cm e).1
    exact ⟨w, z.keeps kp⟩
  · show H ge.locals = none
    rw [hL]; exact I.hok.fresh (Nat.le_refl _)
  · exact I.freeC y c (cm e).1
  · have hp : p ∈ [(h'.objs.size, ob)] ++ ([] : List (Addr × Obj)) := hp
    rw [List.append_nil, List.mem_singleton] at hp
    subst hp
    refine ⟨hget, I.hok.fresh (by rw [hsz]; exact Nat.le_succ _), ?_, fun z => ?_, hd⟩
    · show h'.objs.size ≠ ge.locals
      rw [hL, hsz]
      exact Nat.succ_ne_self _
    · have z : h'.objs.size ∈ frs X.stack := z
      have : h'.objs.size < s.heap.objs.size := by
        rcases List.mem_cons.mp (I.stkSub _ z) with e | e
        · rw [e]; exact I.lt
        · obtain ⟨_, o, ho, _⟩ := I.funs.mem e
          exact Heap.lt_size ho
      rw [hsz] at this
      exact absurd (Nat.lt_of_succ_lt this) (Nat.lt_irrefl _)

/-! ### while a generator sleeps -/
/-- the consumer changed its own objects Ss alone -/
structure Slp (Ss : List Addr) (s s' : Shared) : Prop where
  os : s'.os = s.os
  bare : AllBare s'.gens
  keep : ∀ b o, b ∉ Ss → s.heap.get? b = some o → s'.heap.get? b = some o
  own : ∀ b ∈ Ss, ∃ o, s'.heap.get? b = some o ∧ ∀ v, o.data ≠ .cell v
theorem Slp.inv {Ss : List Addr} {s' : Shared} (z : Slp Ss s s') (I : Inv X pins σ H s) (hf : ∀ b ∈ Ss, FpOk X pins H b) : Inv X pins σ H s' := by
  obtain ⟨z1, z2, z3, z4⟩ := z
  obtain ⟨hh, g, d, t, o⟩ := s'
  have ho : o = s.os := z1
  subst ho
  have nt : ∀ b u, H b = some u → b ∉ Ss := fun b u q hb => by
    rw [(hf b hb).1] at q
    cases q
  refine I.step (g' := g) (t' := t) (d' := d) (ch := Ss) (fun b hb => ⟨(hf b hb).2.2.2.1, (hf b hb).2.1, (hf b hb).2.2.2.2.1, (hf b hb).2.2.2.2.2⟩)
    (fun b ob _ _ hc q _ => z3 b ob hc q) (fun b ob _ _ hc q _ => ⟨ob.slots, z3 b ob hc q⟩) (fun _ _ _ _ n => n) (fun b ob hc q => ⟨ob, z3 b ob hc q⟩)
    (fun _ _ q => q) (fun _ _ _ q => q) (fun b ps q => ⟨#[], by rw [q]; simp⟩) (fun m hm => ?_) (fun b u q => ?_) z2
  · obtain ⟨ob, es, ep, ho, r⟩ := hm
    exact ⟨ob, es, ep, z3 _ ob (fun hb => (hf _ hb).2.1 rfl) ho, r⟩
  · refine (I.hok b u q).stay (fun c v hc y => z3 c v ?_ y) (fun _ y => y) fun _ _ y => y
    rcases hc with y | y
    · rw [y]; exact nt b u q
    · exact nt c _ y
end

/-- what is static of a thing that may turn -/
def FpS (X : Cx) (b : Addr) : Prop := b ≠ X.env.locals ∧ b ∉ X.fs ∧ (b ∈ X.ex ∨ X.s_0.heap.objs.size ≤ b) ∧ (∀ x c, X.env.cells.lookup x = some c → c ≠ b) ∧ ∀ p ∈ X.pn, p.1 ≠ b
theorem FpS.ok {X : Cx} {b : Addr} {H : Hp} {pins : List (Addr × Obj)} (h : FpS X b) (hb : H b = none) (hp : ∀ p ∈ pins, p.1 ≠ b) : FpOk X pins H b :=
  ⟨hb, h.1, h.2.1, h.2.2.1, h.2.2.2.1, fun p q => (List.mem_append.mp q).elim (h.2.2.2.2 p) (hp p)⟩
/-- the items so far grow -/
theorem acc_pre {acc : Nat → List D} {n : Nat} (h : ∀ i, i < n → acc (i + 1) = acc i ∨ ∃ y, acc (i + 1) = acc i ++ [y]) : ∀ k i, i + k = n → acc i <+: acc n
  | 0, i, e => by
    have : i = n := by omega
    subst this
    exact List.prefix_rfl
  | k + 1, i, e => by
    have ih := acc_pre h k (i + 1) (by omega)
    rcases h i (by omega) with q | ⟨y, q⟩
    · rw [← q]; exact ih
    · exact (show acc i <+: acc (i + 1) by rw [q]; exact List.prefix_append _ _).trans ih
theorem pre_get {α : Type} {a b : List α} {y : α} (h : a ++ [y] <+: b) : b[a.length]? = some y := by
  obtain ⟨t, rfl⟩ := h
  rw [List.append_assoc, List.getElem?_append_right (Nat.le_refl _), Nat.sub_self]
  rfl
theorem turn_acc {F : CF} {tg elt : Expr} {ifs : List Expr} {vs : List Nat} {Γ0 : Ga} {d : D} {W W' : OW} {a a' : List D} (h : Turn1 F tg ifs elt vs Γ0 d W a W' a') : a' = a ∨ ∃ y, a' = a ++ [y] := by
  obtain ⟨_, _, _, _, r, _, _, h1, h2⟩ := h
  cases r with
  | true =>
    obtain ⟨y, _, e⟩ := h1 rfl
    exact .inr ⟨y, e⟩
  | false => exact .inl (h2 rfl).2

/-- the consumer's view of its own objects: j items are out -/
structure CsLaw (Ss : List Addr) (Cs : Nat → Hp → Heap → Prop) : Prop where
  mono : ∀ j G G' h h', Cs j G h → Le G G' → (∀ b ∈ Ss, ∀ o, h.get? b = some o → h'.get? b = some o) → (∀ b ∈ Ss, ∃ o, h.get? b = some o) → Cs j G' h'
section
variable (F : CF) (X : Cx) (pins : List (Addr × Obj)) (σ : L2.St) (G1 : Hp) (W1 : OW) (H1 : Hp) (outs : List D) (Ss : List Addr) (Cs : Nat → Hp → Heap → Prop) (a : Addr) (g : Nat)
def GYp : Protocol := fun m s₀ v s kap => ∃ j G2 H2 x d, m + j = outs.length ∧ outs[j]? = some d ∧ RelV x v ∧ Rp F.K G2 x d ∧ Inv X pins σ H2 s ∧ Step F.K F.T G1 W1 H1 G2 W1 H2 ∧ (∀ b ∈ Ss, FpOk X pins H2 b) ∧ Cs j G2 s.heap ∧ s.heap.IsGen a g ∧
  (∀ b ∈ Ss, ∃ o, s.heap.get? b = some o ∧ ∀ v, o.data ≠ .cell v) ∧ ∀ s', Slp Ss s s' → Cs (j + 1) G2 s'.heap → kap (.send .none) s'
def GEnd (s : Shared) : Prop := ∃ G2 H2, Inv X pins σ H2 s ∧ Step F.K F.T G1 W1 H1 G2 W1 H2 ∧ (∀ b ∈ Ss, FpOk X pins H2 b) ∧ Cs outs.length G2 s.heap ∧ ∀ b ∈ Ss, ∃ o, s.heap.get? b = some o ∧ ∀ v, o.data ≠ .cell v
def GRe : GenEnd := fun n s₀ r s => ((r = .ok (.ret .none) ∨ r = .ok .next) ∧ n = 1 ∧ GEnd F X pins σ G1 W1 H1 outs Ss Cs s) ∨ ∃ e, r = .error e ∧ False
end

section
variable {F : CF} {X : Cx} {pins : List (Addr × Obj)} {σ : L2.St} {G1 : Hp} {W1 : OW} {H1 : Hp} {Ss : List Addr} {Cs : Nat → Hp → Heap → Prop} {a : Addr} {g : Nat} {Γ : Ga}
theorem seg_gl {Y : Cx} {A : Around} {scope : Scope} {gpos : Pos} {cd : Value} {ge : Env} {tg iter elt : Expr} {ifs : List Expr} {vs : List Nat} {ds : List D} {Wk : OW → Prop} {acc : Nat → List D} {J : It} {fp : List Addr} {it : Addr} {tn : Nat → Heap → Prop}
    (hF : Sat F X) (hY : Sat (F.gen scope cd) Y) (hYN : F.N.Nodup) (hYe : Y.env = ge) (hYA : Y.A = A.deeper ge) (hYx : Y.xe = fun _ _ => False) (hco : ge.scope.isCoroutine = false) (hpn : ∃ ob, (a, ob) ∈ Y.pn ∧ ∃ nm qn, ob.cls = .type "generator" ∧ ob.data = .fields #[.int g 0, nm, qn] ∧ ob.slots = #[])
    (Tn : Turn F.P F.w F.K tg J fp it tn) (wl : Wlk F J G1 Wk ds) (wk : Wk W1) (sl : Slots F.K G1 Γ σ) (hst : ∀ b ∈ fp ++ Ss, FpS Y b) (hdis : ∀ b ∈ fp, b ∉ Ss) (back : ∀ σ' H' s', Inv Y [] σ' H' s' → (∀ b ∈ Ss, H' b = none) → Inv X pins σ H' s' ∧ ∀ b ∈ Ss, FpOk X pins H' b)
    (law : CsLaw Ss Cs) (hs : ∀ i d, ds[i]? = some d → Turn1 (F.gen scope cd) tg ifs elt vs (wipeG Γ vs) d W1 (acc i) W1 (acc (i + 1))) :
    ∀ (k i : Nat) (s₀ s : Shared) (G2 H2 : Hp), ds.length - i = k → i ≤ ds.length → Inv Y [] (wipe σ vs) H2 s → tn i s.heap → (∀ b ∈ fp ++ Ss, H2 b = none) → (∀ b ∈ Ss, ∃ o, s.heap.get? b = some o ∧ ∀ v, o.data ≠ .cell v) → Step F.K F.T G1 W1 H1 G2 W1 H2 → Cs (acc i).length G2 s.heap →
      Seg (model X.prog X.w) A (GRe F X pins σ G1 W1 H1 (acc ds.length) Ss Cs) (GYp F X pins σ G1 W1 H1 (acc ds.length) Ss Cs a g) ((acc ds.length).length + 1 - (acc i).length) s₀
        (.compLoop (.GeneratorExp elt [⟨tg, iter, ifs, 0⟩] scope gpos) 0 (.ref it) .none ge) ((model X.prog X.w).den (.compLoop (.GeneratorExp elt [⟨tg, iter, ifs, 0⟩] scope gpos) 0 (.ref it) .none ge)) [] s := by
  have eP : F.P = X.prog := hF.P.symm
  have ew : F.w = X.w := hF.w.symm
  have eYP : Y.prog = X.prog := hY.P.trans eP
  have eYw : Y.w = X.w := hY.w.trans ew
  have hov : A.over (.compLoop (.GeneratorExp elt [⟨tg, iter, ifs, 0⟩] scope gpos) 0 (.ref it) .none ge) [] = A.deeper ge := rfl
  have pre := acc_pre (acc := acc) (n := ds.length) fun i hi => turn_acc (hs i ds[i] (List.getElem?_eq_getElem hi))
  rw [eP, ew] at Tn
  intro k
  induction k with
  | zero =>
    intro i s₀ s G2 H2 hk hi I ti hn ho st hC
    have hin : i = ds.length := by omega
    subst hin
    rw [Nat.add_sub_cancel_left]
    obtain ⟨_, w2⟩ := wl G2 W1 H2 st.le st.hk wk ds.length
    show Seg _ A _ _ _ s₀ _ ((compTurn (.GeneratorExp elt [⟨tg, iter, ifs, 0⟩] scope gpos) 0 (.ref it) .none ge).onRaise (leaving ge)) [] s
    rw [compTurn_gen, Sem.onRaise_eq_wrap]
    refine seg_bind_wrap (wpAny_standAt ?_)
    have I1 := I.pinned (pins := []) (fp := Ss) (fun b hb => (hst b (List.mem_append_right _ hb)).ok (hn b (List.mem_append_right _ hb)) (by simp)) ho
    have td := Tn.done Y eYP eYw hY.K hY.calm ds.length _ s _ H2 (fun _ _ => False) I1 (fun b hb => (hst b (List.mem_append_left _ hb)).ok (hn b (List.mem_append_left _ hb)) (fun p hp => ?_)) ti (w2 (Nat.le_refl _))
    · rw [hYA] at td
      refine seg_bind_wrap ?_
      rw [hov]
      refine thnF td fun r s1 ⟨hr, I2⟩ => ?_
      subst hr
      have same : ∀ b ∈ Ss, ∀ o, s.heap.get? b = some o → s1.heap.get? b = some o := fun b hb o e => (I2.pin (b, o) (List.mem_append_right _ (List.mem_append_right _ (mem_pinsAt hb e)))).1
      obtain ⟨b1, b2⟩ := back _ _ _ (I2.unpinned (pins := [])) fun b hb => hn b (List.mem_append_right _ hb)
      exact seg_end (.ok .next) (.inl ⟨.inr rfl, rfl, G2, H2, b1, st, b2, law.mono _ _ _ _ _ hC (Le.refl _) same fun b hb => (ho b hb).imp fun _ z => z.1, fun b hb => (ho b hb).imp fun o z => ⟨same b hb o z.1, z.2⟩⟩)
    · rcases List.mem_append.mp hp with hp | hp
      · cases hp
      · intro z
        exact hdis b hb (z ▸ (of_pinsAt hp).1)
  | succ k ih =>
    intro i s₀ s G2 H2 hk hi I ti hn ho st hC
    have hlt : i < ds.length := by omega
    have hget : ds[i]? = some ds[i] := List.getElem?_eq_getElem hlt
    obtain ⟨w1, _⟩ := wl G2 W1 H2 st.le st.hk wk i
    obtain ⟨go, w3⟩ := w1 ds[i] hget
    obtain ⟨Γ1, ts, hg, hts, r, Wx, ht, h1, h2⟩ := hs i ds[i] hget
    show Seg _ A _ _ _ s₀ _ ((compTurn (.GeneratorExp elt [⟨tg, iter, ifs, 0⟩] scope gpos) 0 (.ref it) .none ge).onRaise (leaving ge)) [] s
    rw [compTurn_gen, Sem.onRaise_eq_wrap]
    refine seg_bind_wrap (wpAny_standAt ?_)
    have I1 := I.pinned (pins := []) (fp := Ss) (fun b hb => (hst b (List.mem_append_right _ hb)).ok (hn b (List.mem_append_right _ hb)) (by simp)) ho
    have dp : ∀ b ∈ fp, ∀ p ∈ [] ++ pinsAt Ss s.heap, p.1 ≠ b := fun b hb p hp => by
      rcases List.mem_append.mp hp with hp | hp
      · cases hp
      · intro z
        exact hdis b hb (z ▸ (of_pinsAt hp).1)
    have td := Tn.item Y eYP eYw hY.K hY.calm i _ s _ H2 (fun _ _ => False) I1 (fun b hb => (hst b (List.mem_append_left _ hb)).ok (hn b (List.mem_append_left _ hb)) (dp b hb)) ti go
    rw [hYA] at td
    refine seg_bind_wrap ?_
    rw [hov]
    refine thnF td fun r0 s1 ⟨u, hr, h6⟩ => ?_
    subst hr
    refine seg_bind_wrap ?_
    rw [hov]
    refine thnF h6 fun _ s2 ⟨x, H3, I3, rx, y3, ti3, n3⟩ => ?_
    obtain ⟨s3, yp⟩ := w3 x H3 y3
    have I3' := I3.pinned (fun b hb => (hst b (List.mem_append_left _ hb)).ok (n3 b hb) (dp b hb)) (Tn.obj _ _ ti3)
    have slG : Slots F.K G2 (wipeG Γ vs) (wipe σ vs) := (sl.mono st.le).wipe vs
    have st3 := st.trans s3
    have pg := (cG_pg (tg := tg) (S := SatG (F.gen scope cd)) ⟨hY, by rw [hY.N]; exact hYN⟩).run _ s2 _ H3 x u (fun σ4 H4 => H4 = H3 ∧ Slots F.K G2 Γ1 σ4 ∧ But ts (wipe σ vs) σ4) I3' rx (hg G2 H3 x (wipe σ vs) _ slG s3.hk.sub yp fun σ4 sl4 bt => ⟨rfl, sl4, bt⟩)
    rw [eYP, eYw, hYe, hYA, hYx] at pg
    refine seg_bind_wrap ?_
    rw [hov]
    refine thnF pg fun _ s4 ⟨σ4, H4, I4, e4, sl4, bt⟩ => ?_
    subst e4
    have pt := (cTs_pts (F := F.gen scope cd) (ifs := ifs) hY).run _ s4 σ4 H4 (fun b H5 => b = r ∧ ∃ G5, Step F.K F.T G2 W1 H4 G5 Wx H5) I4 (ht G2 H4 σ4 _ sl4 s3.hk fun G5 H5 s5 => ⟨rfl, G5, s5⟩)
    rw [eYP, eYw, hYe, hYA, hYx] at pt
    refine seg_bind_wrap ?_
    rw [hov]
    refine thnF pt fun b s5 ⟨H5, I5, e5, G5, st5⟩ => ?_
    subst e5
    -- the turn's end
    have fin : ∀ {s' : Shared} {H' : Hp}, Inv Y (([] ++ pinsAt Ss s.heap) ++ pinsAt fp s2.heap) σ4 H' s' → Inv Y [] (wipe σ vs) H' s' ∧ tn (i + 1) s'.heap ∧ (∀ b ∈ fp ++ Ss, H' b = none) ∧ (∀ b ∈ Ss, ∀ o, s.heap.get? b = some o → s'.heap.get? b = some o) := fun {s' H'} I' => by
      have pf : ∀ b ∈ fp, ∀ o, s2.heap.get? b = some o → s'.heap.get? b = some o ∧ H' b = none := fun b hb o e =>
        let z := I'.pin (b, o) (List.mem_append_right _ (List.mem_append_right _ (mem_pinsAt hb e)))
        ⟨z.1, z.2.1⟩
      have ps : ∀ b ∈ Ss, ∀ o, s.heap.get? b = some o → s'.heap.get? b = some o ∧ H' b = none := fun b hb o e =>
        let z := I'.pin (b, o) (List.mem_append_right _ (List.mem_append_left _ (List.mem_append_right _ (mem_pinsAt hb e))))
        ⟨z.1, z.2.1⟩
      have hw := wipe_but bt hts
      refine ⟨((I'.unpinned).unpinned (pins := [])).weak (by rw [← hw, wipe_length]) (fun j v e => (wipe_some (vs := vs) (by rw [hw]; exact e)).1), Tn.keep _ _ _ ti3 fun b hb o e => (pf b hb o e).1, fun b hb => ?_, fun b hb o e => (ps b hb o e).1⟩
      rcases List.mem_append.mp hb with hb | hb
      · obtain ⟨o, e, _⟩ := Tn.obj _ _ ti3 b hb
        exact (pf b hb o e).2
      · obtain ⟨o, e, _⟩ := ho b hb
        exact (ps b hb o e).2
    cases b with
    | false =>
      obtain ⟨e6, e7⟩ := h2 rfl
      subst e6
      simp only [Bool.false_eq_true, if_false]
      obtain ⟨f1, f2, f3, f4⟩ := fin I5
      rw [← e7] at hC ⊢
      exact seg_again rfl (ih (i + 1) s₀ s5 G5 H5 (by omega) hlt f1 f2 f3 (fun b hb => by
        obtain ⟨o, e, z⟩ := ho b hb
        exact ⟨o, f4 b hb o e, z⟩) (st3.trans st5) (law.mono _ _ _ _ _ hC st5.le f4 fun b hb => (ho b hb).imp fun _ z => z.1))
    | true =>
      obtain ⟨y, he, e7⟩ := h1 rfl
      simp only [if_true]
      have hy : ∀ v, yieldOut ge v = yieldValue v := fun v => by simp only [yieldOut, hco, Bool.false_eq_true, if_false]
      simp only [hy]
      have hpre : acc i ++ [y] <+: acc ds.length := by
        rw [← e7]
        exact pre (ds.length - (i + 1)) (i + 1) (by omega)
      have hle := hpre.length_le
      rw [List.length_append, List.length_singleton] at hle
      have eN : (acc ds.length).length + 1 - (acc i).length = ((acc ds.length).length + 1 - (acc (i + 1)).length) + 1 := by
        rw [e7, List.length_append, List.length_singleton]
        omega
      rw [eN, Sem.bind_eq_wrap', Sem.bind_eq_wrap', Sem.wrap_wrap, Sem.wrap_wrap]
      have pe := (cE_pe (F := F.gen scope cd) (e := elt) hY).run _ s5 σ4 H5 (fun v H6 => ∃ G6, Step F.K F.T G5 Wx H5 G6 W1 H6 ∧ Rp F.K G6 v y) I5 (he G5 H5 σ4 _ (sl4.mono st5.le) st5.hk fun v G6 H6 s6 r6 => ⟨G6, s6, r6⟩)
      rw [eYP, eYw, hYe, hYA, hYx] at pe
      refine seg_wrap ?_
      rw [hov]
      refine thnF pe fun v6 s6 ⟨v, H6, I6, rv, G6, st6, r6⟩ => ?_
      obtain ⟨f1, f2, f3, f4⟩ := fin I6
      obtain ⟨b1, b2⟩ := back _ _ _ f1 fun b hb => f3 b (List.mem_append_right _ hb)
      obtain ⟨ob, hpo, nm, qn, o1, o2, o3⟩ := hpn
      have hS6 : ∀ b ∈ Ss, ∃ o, s6.heap.get? b = some o ∧ ∀ v, o.data ≠ .cell v := fun b hb => by
        obtain ⟨o, e, z⟩ := ho b hb
        exact ⟨o, f4 b hb o e, z⟩
      refine seg_at (seg_yield rfl rfl rfl ⟨(acc i).length, G6, H6, v, y, ?_, pre_get hpre, rv, r6, b1, (st3.trans st5).trans st6, b2, law.mono _ _ _ _ _ hC (st5.le.trans st6.le) f4 fun b hb => (ho b hb).imp fun _ z => z.1, ⟨ob, nm, qn, (f1.pin (a, ob) (List.mem_append_left _ hpo)).1, o1, o2, o3⟩, hS6, fun s' z hC' => ?_⟩)
      · rw [e7, List.length_append, List.length_singleton]
        omega
      · have nSs : ∀ b ∈ Ss, FpOk Y [] H6 b := fun b hb => (hst b (List.mem_append_right _ hb)).ok (f3 b (List.mem_append_right _ hb)) (by simp)
        refine seg_again rfl (ih (i + 1) s' s' G6 H6 (by omega) hlt (z.inv f1 nSs) (Tn.keep _ _ _ f2 fun b hb o e => z.keep b o (hdis b hb) e) f3 z.own ((st3.trans st5).trans st6) ?_)
        rw [e7, List.length_append, List.length_singleton]
        exact hC'
end

/-! ### the consumer's side -/
section
variable (F : CF) (X : Cx) (pins : List (Addr × Obj)) (σ : L2.St) (G1 : Hp) (W1 : OW) (H1 : Hp) (outs : List D) (A : Around) (Ss : List Addr) (Cs : Nat → Hp → Heap → Prop) (a : Addr) (g : Nat)
/-- the generator sleeps, j items are out -/
def Asl (j : Nat) (s : Shared) : Prop := s.heap.IsGen a g ∧ (∀ b ∈ Ss, ∃ o, s.heap.get? b = some o ∧ ∀ v, o.data ≠ .cell v) ∧ ∃ G2 H2, Inv X pins σ H2 s ∧ Step F.K F.T G1 W1 H1 G2 W1 H2 ∧ (∀ b ∈ Ss, FpOk X pins H2 b) ∧ Cs j G2 s.heap ∧ ∃ gs, s.gens[g]? = some gs ∧
  ∀ s', Slp Ss s s' → Cs j G2 s'.heap → gs.Goes (model X.prog X.w) A.in1 (GRe F X pins σ G1 W1 H1 outs Ss Cs) (GYp F X pins σ G1 W1 H1 outs Ss Cs a g) (outs.length + 1 - j) (.send .none) s'
end
section
variable {F : CF} {X : Cx} {pins : List (Addr × Obj)} {σ : L2.St} {G1 : Hp} {W1 : OW} {H1 : Hp} {outs : List D} {A : Around} {Ss : List Addr} {Cs : Nat → Hp → Heap → Prop} {a : Addr} {g : Nat}
theorem Slp.refl {s : Shared} (hb : AllBare s.gens) (h : ∀ b ∈ Ss, ∃ o, s.heap.get? b = some o ∧ ∀ v, o.data ≠ .cell v) : Slp Ss s s := ⟨rfl, hb, fun _ _ _ e => e, h⟩
theorem Slp.trans {s s1 s2 : Shared} (x : Slp Ss s s1) (y : Slp Ss s1 s2) : Slp Ss s s2 := ⟨y.os.trans x.os, y.bare, fun b o n e => y.keep b o n (x.keep b o n e), y.own⟩
theorem gens_lt {s : Shared} {g : Nat} {gs : GenState} (h : s.gens[g]? = some gs) : g < s.gens.size := (Array.getElem?_eq_some_iff.mp h).1
/-- an item -/
theorem Asl.item {j : Nat} {s : Shared} {Q : Option Value → Shared → Prop} {E : Value → Shared → Prop} (h : Asl F X pins σ G1 W1 H1 outs A Ss Cs a g j s) (hc : X.calm = true) (hh : A.handled = none) (hd : A.depth < recursionLimit) (hj : j < outs.length)
    (hQ : ∀ v s1 x d G2 H2, outs[j]? = some d → RelV x v → Rp F.K G2 x d → Inv X pins σ H2 s1 → Step F.K F.T G1 W1 H1 G2 W1 H2 → (∀ b ∈ Ss, FpOk X pins H2 b) → (∀ b ∈ Ss, ∃ o, s1.heap.get? b = some o ∧ ∀ v, o.data ≠ .cell v) → Cs j G2 s1.heap →
      (∀ s2, Slp Ss s1 s2 → s2.gens = s1.gens → s2.heap.IsGen a g → Cs (j + 1) G2 s2.heap → Asl F X pins σ G1 W1 H1 outs A Ss Cs a g (j + 1) s2) → s1.heap.IsGen a g → Q (some v) s1) :
    wpAny (model X.prog X.w) A (pyNext (.ref a)) Q E s := by
  obtain ⟨hg, hS, G2, H2, I, st, hf, hC, gs, hgs, goes⟩ := h
  have lt := gens_lt hgs
  refine wpAny_gsz (n := g + 1) lt ?_
  refine next_genG (n := outs.length + 1 - j) (F := fun n s₀ s => n = 1 ∧ GEnd F X pins σ G1 W1 H1 outs Ss Cs s) (Er := fun _ _ => False) (Y := GYp F X pins σ G1 W1 H1 outs Ss Cs a g) hh I.nolimit hd hg hgs
    (goes _ ⟨rfl, allBare_setGen I.bare rfl, fun _ _ _ e => e, hS⟩ hC) (fun v s1 gs' hb hy => ?_) (fun s1 he h' hk => ?_) (fun _ _ z => z.elim)
  · obtain ⟨j', G3, H3, x, d, e1, e2, rv, rp, I3, st3, hf3, hC3, hg3, hS3, kap⟩ := hy
    have : j' = j := by omega
    subst this
    intro hsz
    have lt1 : g < s1.gens.size := by
      have q : (s1.setGen g gs').gens.size = s1.gens.size := setGen_size s1 g gs'
      omega
    have I4 : Inv X pins σ H3 (s1.setGen g gs') := (show Slp Ss s1 (s1.setGen g gs') from ⟨rfl, allBare_setGen I3.bare hb, fun _ _ _ e => e, hS3⟩).inv I3 hf3
    refine hQ v _ x d G3 H3 e2 rv rp I4 st3 hf3 hS3 hC3 (fun s2 z eg ig c2 => ⟨ig, z.own, G3, H3, z.inv I4 hf3, st3, hf3, c2, gs', ?_, fun s4 z4 c4 => ?_⟩) hg3
    · rw [eg]
      exact setGen_at lt1
    · have e5 : outs.length + 1 - j' = (outs.length + 1 - (j' + 1)) + 1 := by omega
      have kk := kap s4 ⟨z4.os.trans z.os, z4.bare, fun b o n e => z4.keep b o n (z.keep b o n e), z4.own⟩ c4
      rw [e5] at kk
      exact kk
  · omega
/-- the end -/
theorem Asl.done {s : Shared} {Q : Option Value → Shared → Prop} {E : Value → Shared → Prop} (law : CsLaw Ss Cs) (h : Asl F X pins σ G1 W1 H1 outs A Ss Cs a g outs.length s) (hc : X.calm = true) (hh : A.handled = none) (hd : A.depth < recursionLimit)
    (hQ : ∀ s1 G2 H2, Inv X pins σ H2 s1 → Step F.K F.T G1 W1 H1 G2 W1 H2 → (∀ b ∈ Ss, FpOk X pins H2 b) → Cs outs.length G2 s1.heap → Q none s1) :
    wpAny (model X.prog X.w) A (pyNext (.ref a)) Q E s := by
  obtain ⟨hg, hS, G2, H2, I, st, hf, hC, gs, hgs, goes⟩ := h
  refine next_genG (n := outs.length + 1 - outs.length) (F := fun n s₀ s => n = 1 ∧ GEnd F X pins σ G1 W1 H1 outs Ss Cs s) (Er := fun _ _ => False) (Y := GYp F X pins σ G1 W1 H1 outs Ss Cs a g) hh I.nolimit hd hg hgs
    (goes _ ⟨rfl, allBare_setGen I.bare rfl, fun _ _ _ e => e, hS⟩ hC) (fun v s1 gs' hb hy => ?_) (fun s1 he h' hk => ?_) (fun _ _ z => z.elim)
  · obtain ⟨j', G3, H3, x, d, e1, e2, _⟩ := hy
    have := (List.getElem?_eq_some_iff.mp e2).1
    omega
  · obtain ⟨_, G3, H3, I3, st3, hf3, hC3, hS3⟩ := he
    refine hQ _ G3 H3 ((show Slp Ss s1 { s1.setGen g .finished with heap := h' } from ⟨rfl, allBare_setGen I3.bare rfl, fun b o _ e => hk b o e, fun b hb => ?_⟩).inv I3 hf3) st3 hf3 (law.mono _ _ _ _ _ hC3 (Le.refl _) (fun b _ o e => hk b o e) fun b hb => (hS3 b hb).imp fun _ z => z.1)
    obtain ⟨o, e, z⟩ := hS3 b hb
    exact ⟨o, hk b o e, z⟩
end

theorem ad_out {b n : Nat} (h1 : b < n) (h2 : n + 2 ≤ b) : False := by omega
theorem ad_ne {b n : Nat} (h2 : n + 2 ≤ b) : b ≠ n := by omega
theorem ad_ne1 {b n m : Nat} (h1 : m = n + 1) (h2 : n + 2 ≤ b) : m ≠ b := by omega
theorem ad_ne2 {b n m : Nat} (h1 : m = n + 1) (h2 : b < n) : m ≠ b := by omega
/-! ### its making -/
/-- a generator expression's value: who takes its items may begin -/
def GMk (F : CF) (X : Cx) (pins : List (Addr × Obj)) (σ : L2.St) (G : Hp) (W : OW) (H : Hp) (W1 : OW) (outs : List D) (u : Value) (s5 : Shared) : Prop :=
  ∃ (a : Addr) (g : Nat) (G1 H1 : Hp), u = .ref a ∧ a < s5.heap.objs.size ∧ s5.heap.IsGen a g ∧ s5.heap.NoLimit ∧ Inv X pins σ H1 s5 ∧ Step F.K F.T G W H G1 W1 H1 ∧ ∀ (A : Around) (Ss : List Addr) (Cs : Nat → Hp → Heap → Prop) (s6 : Shared), A.handled = none → A.frames = some X.stack → Room (F.k - 1) A → CsLaw Ss Cs →
    (∀ b o, s5.heap.get? b = some o → s6.heap.get? b = some o) → s6.os = s5.os → s6.gens = s5.gens → (∀ b ∈ Ss, s5.heap.objs.size ≤ b ∧ ∃ o, s6.heap.get? b = some o ∧ ∀ v, o.data ≠ .cell v) → (∀ G, Cs 0 G s6.heap) →
    Asl F X pins σ G1 W1 H1 outs A Ss Cs a g 0 s6
/-- what the making of generator expressions asks of the def: its code object's table -/
structure GTab (F : CF) : Prop where
  ex : ∃ c P, F.cd = .ref c ∧ GxR.TabB F.base F.mg c P ∧ P ∈ F.T.g ∧ P ∉ F.T.l.map (·.1)
theorem gen_mk {F : CF} {X : Cx} {pins : List (Addr × Obj)} {σ : L2.St} {G H : Hp} {W W1 : OW} {s : Shared} {Γ : Ga} {tg iter elt : Expr} {ifs : List Expr} {scope : Scope} {gpos : Pos} {own : List (Str × Nat)} {ds : List D} {Wk : OW → Prop} {acc : Nat → List D}
    (hX : Sat F X) (gt : GTab F) (hk2 : 3 ≤ F.k) (hN : F.N.Nodup) (ok : BlkOk F.N F.sc scope own) (gk : GScp scope) (hi : EI F tg iter Γ W ds Wk W1) (wk : Wk W1) (h0 : acc 0 = []) (hs : ∀ cd i d, ds[i]? = some d → Turn1 (F.gen scope cd) tg ifs elt (own.map (·.2)) (wipeG Γ (own.map (·.2))) d W1 (acc i) W1 (acc (i + 1)))
    (I : Inv X pins σ H s) (sl : Slots F.K G Γ σ) (hk : Hk F.K F.T G W H) (hf : ∀ env v, genFold iter env v = pure v) :
    wpAny (model X.prog X.w) X.A (eval (.GeneratorExp elt [⟨tg, iter, ifs, 0⟩] scope gpos) X.env) (GMk F X pins σ G W H W1 (acc ds.length)) X.xe s := by
  obtain ⟨c, P, hcd, TB, hP, hPl⟩ := gt.ex
  have okX : BlkOk X.N X.env.scope scope own := by rw [hX.N, hX.sc]; exact ok
  have hfree : ∀ y ∈ scope.names, y.2 = .free → ∃ c, X.env.cells.lookup y.1 = some c := fun y hy e => by
    rcases okX.free y hy e with k | k
    · exact I.ok.has _ (.inl k)
    · exact I.ok.has _ (.inr k)
  have hrd := hX.room.dp
  refine wpAny_GeneratorExp_make gk.co (closure_ok hfree) gk.cell gk.dot ok.kind (by omega) ?_ (hf _)
  refine thn ((cI_pi (tg := tg) (iter := iter) hX).run pins s σ H (fun J H1 => ∃ G1, Step F.K F.T G W H G1 W1 H1 ∧ Wlk F J G1 Wk ds) I (hi G H σ _ sl hk fun J G1 H1 st wl => ⟨G1, st, wl⟩)) fun xv s1 hx => thn hx fun itv s2 h2 => ?_
  obtain ⟨it, fp, tn, J, H2, e, I2, Tn, ti2, f2, G1, st2, wl⟩ := h2
  subst e
  refine ⟨I2.nolimit, ?_⟩
  obtain ⟨ps, hPt, ht⟩ := st2.hk.tab.1 P hP
  have hcode : X.env.code = .ref c := hX.cd.trans hcd
  rw [← hX.base, ← hX.mg] at TB
  have hPs : s2.heap.get? P = some { cls := .none, data := .fields ps } := I2.hok P _ hPt
  have cd := TB.code.keeps I2.bk
  have cont : ∀ (code : Value) (h3 : Heap) (tk : Nat) (ps' more : Array Value), ps' = ps ++ more → (∀ b o, b ≠ P → s2.heap.get? b = some o → h3.get? b = some o) → h3.get? P = some { cls := .none, data := .fields ps' } → TriplesOk ps'.toList →
      wpAny (model X.prog X.w) X.A (builtinsFor X.env.globals X.env.builtins) (fun bi s₄ =>
        ∀ h', h'.Ns s₄.heap.objs.size (fun y => if y = ".0" then some (.ref it) else none) → Heap.SameBut s₄.heap.objs.size (s₄.heap.push { cls := .type "frame", data := .dict #[] }) h' →
          GMk F X pins σ G W H W1 (acc ds.length) (.ref h'.objs.size) { s₄ with
            gens := s₄.gens.push (.fresh (.compStart (.GeneratorExp elt [⟨tg, iter, ifs, 0⟩] scope gpos) 0 (.ref it) .none (genEnv scope (cloFrom X.env.cells scope.names []) s₄.heap.objs.size code bi X.env))),
            toks := s₄.toks + 1 + 1 + 1,
            heap := h'.push { cls := .type "generator", data := .fields #[.int s₄.gens.size 0, .str "<genexpr>" (s₄.toks + 1), .str (X.env.qual ++ "<genexpr>") (s₄.toks + 1 + 1)] } }) X.xe { s2 with heap := h3, toks := tk } := by
    intro code h3 tk ps' more em hx hP3 ht3
    obtain ⟨bm, ob, e1, e2, e3, e4, e5, e6, e7, e8⟩ := TB.bm
    have nP : ∀ b, H2 b = none → b ≠ P := fun b q z => by
      rw [z, hPt] at q
      cases q
    have keep3 : ∀ b u, b ≠ P → s2.heap.get? b = some u → h3.get? b = some u := hx
    have J3 : Inv X pins σ (upd H2 P (.tbl (ps ++ more))) { s2 with heap := h3, toks := tk } :=
      GxR.inv_tab (g' := s2.gens) (d' := s2.drawn) I2 hPt (fun b o hb e => hx b o hb e) (by rw [← em]; exact hP3) I2.bare
    refine wpAny_builtinsFor (m := X.mg) (by rw [I2.ok.glob]; exact J3.mod.glob.keeps J3.bk) e1 e2 (J3.bk _ _ e5) e6 e7 e8 ?_
    intro h' hn hsb
    generalize hs4 : ({ s2 with heap := h3, toks := tk } : Shared) = s4 at J3 hn hsb ⊢
    have h34 : s4.heap = h3 := by rw [← hs4]
    have os4 : s4.os = s2.os := by rw [← hs4]
    rw [h34] at hn hsb ⊢
    have st4 := st2.trans (st2.hk.grow hPt (ps' := ps ++ more) (by rw [← em]; exact ht3) hPl)
    have ti4 : tn 0 s4.heap := Tn.keep _ _ _ ti2 fun b hb o e => by rw [h34]; exact keep3 b o (nP b (f2 b hb).1) e
    have fp4 : ∀ b ∈ fp, FpOk X pins (upd H2 P (.tbl (ps ++ more))) b ∧ b < s4.heap.objs.size := fun b hb => by
      obtain ⟨o, e, _⟩ := Tn.obj _ _ ti4 b hb
      exact ⟨⟨by rw [upd_ne (nP b (f2 b hb).1)]; exact (f2 b hb).1, (f2 b hb).2⟩, Heap.lt_size e⟩
    generalize hH4 : upd H2 P (.tbl (ps ++ more)) = H4 at J3 st4 fp4
    have hsz : h'.objs.size = s4.heap.objs.size + 1 := by rw [hsb.1, Heap.size_push, h34]
    generalize hob : ({ cls := .type "generator", data := .fields #[.int s4.gens.size 0, .str "<genexpr>" (s4.toks + 1), .str (X.env.qual ++ "<genexpr>") (s4.toks + 1 + 1)] } : Obj) = ob
    have hobc : ob.cls = .type "generator" ∧ ob.data = .fields #[.int s4.gens.size 0, .str "<genexpr>" (s4.toks + 1), .str (X.env.qual ++ "<genexpr>") (s4.toks + 1 + 1)] ∧ ob.slots = #[] := by rw [← hob]; exact ⟨rfl, rfl, rfl⟩
    have hobf : ob.isFreed = false := by rw [← hob]; rfl
    have kp5 : ∀ b o, s4.heap.get? b = some o → (h'.push ob).get? b = some o := fun b o e => by
      rw [h34] at e
      exact Heap.get?_push_of_some _ (hsb.extBut b o (Nat.ne_of_lt (Heap.lt_size e)) (Heap.get?_push_of_some _ e))
    have hget : (h'.push ob).get? h'.objs.size = some ob := Heap.get?_push_size _ hobf
    generalize hgc : GenState.fresh (.compStart (.GeneratorExp elt [⟨tg, iter, ifs, 0⟩] scope gpos) 0 (.ref it) .none (genEnv scope (cloFrom X.env.cells scope.names []) h3.objs.size code builtinsNs X.env)) = gfr
    have hgb : gfr.bare = true := by rw [← hgc]; rfl
    generalize hs5 : ({ s4 with gens := s4.gens.push gfr, toks := s4.toks + 1 + 1 + 1, heap := h'.push ob } : Shared) = s5
    have h5 : s5.heap = h'.push ob := by rw [← hs5]
    have os5 : s5.os = s4.os := by rw [← hs5]
    have g5 : s5.gens = s4.gens.push gfr := by rw [← hs5]
    have bare5 : AllBare s5.gens := by rw [g5]; exact J3.bare.push hgb
    have hgen : s5.heap.IsGen h'.objs.size s4.gens.size := by rw [h5]; exact ⟨ob, _, _, hget, hobc.1, hobc.2.1, hobc.2.2⟩
    have J5 : Inv X pins σ H4 s5 := (show Slp [] s4 s5 from ⟨os5, bare5, fun b o _ e => by rw [h5]; exact kp5 b o e, fun b hb => by cases hb⟩).inv J3 fun b hb => by cases hb
    refine ⟨h'.objs.size, s4.gens.size, G1, H4, rfl, ?_, hgen, J5.nolimit, J5, st4, fun A Ss Cs s6 hA1 hA2 hr law k6 os6 g6 hS hC0 => ?_⟩
    · rw [h5, Heap.size_push]
      exact Nat.lt_succ_self _
    · have S4 : ∀ b ∈ Ss, s4.heap.objs.size + 2 ≤ b := fun b hb => by
        have := (hS b hb).1
        rw [h5, Heap.size_push, hsz] at this
        exact this
      have sl6 : Slp Ss s5 s6 := ⟨os6, by rw [g6]; exact bare5, fun b o _ e => k6 b o e, fun b hb => (hS b hb).2⟩
      have fS : ∀ b ∈ Ss, FpOk X pins H4 b := fun b hb => J3.fpOk (by have := S4 b hb; omega) (J3.hok.fresh (by have := S4 b hb; omega))
      have Y0 := gn_start (A := A.in1.deeper (genEnv scope (cloFrom X.env.cells scope.names []) s4.heap.objs.size code builtinsNs X.env)) (code := code) (gs := s5.gens) (tk := s4.toks + 1 + 1 + 1) (own := own) (fp := fp) (scope := scope) (h' := h') (ob := ob) (m := fun y => if y = ".0" then some (.ref it) else none)
        J3 okX gk (by rw [hX.N]; exact hN) fp4 (by show (A.frames).map _ = _; rw [hA2]; rfl) (fun _ => hA1) (by rw [h34]; exact hn) (by rw [h34]; exact hsb) (fun v e => by rw [hobc.2.1] at e; cases e) hobf bare5
      have e5 : ({ s4 with gens := s5.gens, toks := s4.toks + 1 + 1 + 1, heap := h'.push ob } : Shared) = s5 := by rw [← hs5]
      rw [e5] at Y0
      rw [← h34] at hgc
      generalize hge : genEnv scope (cloFrom X.env.cells scope.names []) s4.heap.objs.size code builtinsNs X.env = ge at Y0 hgc
      have geL : ge.locals = s4.heap.objs.size := by rw [← hge]; rfl
      have geS : ge.scope = scope := by rw [← hge]; rfl
      have geC : ge.cells = cloFrom X.env.cells scope.names [] := by rw [← hge]; rfl
      have geD : ge.code = code := by rw [← hge]; rfl
      have geQ : ge.qual = F.q ++ "<genexpr>." := by rw [← hge, ← hX.qual]; rfl
      refine ⟨hgen.keeps k6, fun b hb => (hS b hb).2, G1, H4, sl6.inv J5 fS, .refl st4.hk, fS, hC0 _, gfr, ?_, fun s'' z hC => ?_⟩
      · rw [g6, g5]
        exact Array.getElem?_push_size ..
      · have hst : ∀ b ∈ fp ++ Ss, FpS (gnCx X s4 H4 ge fp [(h'.objs.size, ob)] (A.in1.deeper ge)) b := fun b hb => by
          have hcm : ∀ y c, ge.cells.lookup y = some c → X.env.cells.lookup y = some c ∧ c < s4.heap.objs.size := fun y c e => by
            rw [geC] at e
            rcases cloFrom_mem (PySem.mem_of_lookup e) with hm | ⟨h1, rfl⟩
            · cases hm
            · obtain ⟨c, hc⟩ := hfree _ h1 rfl
              rw [hc]
              obtain ⟨w, q⟩ := J3.cell _ _ hc
              exact ⟨rfl, q.lt⟩
          rcases List.mem_append.mp hb with hb | hb
          · have hlt := (fp4 b hb).2
            refine ⟨by show b ≠ ge.locals; rw [geL]; exact Nat.ne_of_lt hlt, fun q => ?_, .inl hb, fun y c e q => ?_, fun p hp => ?_⟩
            · rcases List.mem_cons.mp (J3.stkSub b q) with q | q
              · exact (fp4 b hb).1.2.1 q
              · exact (fp4 b hb).1.2.2.1 q
            · exact (fp4 b hb).1.2.2.2.2.1 y c (hcm y c e).1 q
            · have hp : p ∈ [(h'.objs.size, ob)] := hp
              rw [List.mem_singleton] at hp
              subst hp
              exact ad_ne2 hsz hlt
          · have hge2 := S4 b hb
            refine ⟨by show b ≠ ge.locals; rw [geL]; exact ad_ne hge2, fun q => ?_, .inr (Nat.le_trans (Nat.le_add_right _ 2) hge2), fun y c e q => ?_, fun p hp => ?_⟩
            · have hlt : b < s4.heap.objs.size := by
                rcases List.mem_cons.mp (J3.stkSub b q) with e | e
                · rw [e]; exact J3.lt
                · obtain ⟨_, o, ho, _⟩ := J3.funs.mem e
                  exact Heap.lt_size ho
              exact ad_out hlt hge2
            · exact ad_out (hcm y c e).2 (q ▸ hge2)
            · have hp : p ∈ [(h'.objs.size, ob)] := hp
              rw [List.mem_singleton] at hp
              subst hp
              exact ad_ne1 hsz hge2
        have hdis : ∀ b ∈ fp, b ∉ Ss := fun b hb q => by
          exact ad_out (fp4 b hb).2 (S4 b q)
        have nSs : ∀ b ∈ fp ++ Ss, H4 b = none := fun b hb => by
          rcases List.mem_append.mp hb with hb | hb
          · exact (fp4 b hb).1.1
          · exact (fS b hb).1
        have YS : Sat (F.gen scope code) (gnCx X s4 H4 ge fp [(h'.objs.size, ob)] (A.in1.deeper ge)) := ⟨hX.P, hX.w, hX.K, hX.mg, hX.base, hX.N, geS, geD, by
          refine Room.deeper (k := F.k - 3) (A := A.in1) ⟨hA1, ?_, ?_⟩ ge
          · have := hr.dp
            show A.depth + 3 * (F.k - 3 + 1) + 5 < _
            omega
          · have := hr.un
            show A.units + 1 + 16 * (F.k - 3 + 1) + 200 < _
            omega, hX.calm, passL, geQ, (fun _ e => nomatch e), fun _ e => nomatch e⟩
        have gl := seg_gl (pins := pins) (iter := iter) (a := h'.objs.size) (g := s4.gens.size) (gpos := gpos) (A := A.in1) (vs := own.map (·.2)) (acc := acc) hX YS hN rfl rfl rfl (by rw [geS]; exact gk.co) ⟨ob, List.mem_singleton.mpr rfl, _, _, hobc.1, hobc.2.1, hobc.2.2⟩ (by rw [← hX.P, ← hX.w, ← hX.K]; exact Tn) wl wk (sl.mono st4.le) hst hdis
          (fun σ' H' s' I' hn => ?_) law (hs code) ds.length 0 s'' s'' G1 H4 (Nat.sub_zero _) (Nat.zero_le _) (Slp.inv ⟨z.os.trans sl6.os, z.bare, fun b o n e => z.keep b o n (k6 b o e), z.own⟩ Y0 fun b hb => (hst b (List.mem_append_right _ hb)).ok (fS b hb).1 (by simp))
          (Tn.keep _ _ _ ti4 fun b hb o e => z.keep b o (hdis b hb) (k6 b o (by rw [h5]; exact kp5 b o e))) nSs z.own (.refl st4.hk) (by rw [h0]; exact hC)
        · rw [h0] at gl
          subst hgc
          refine ⟨rfl, ?_⟩
          show Seg _ A.in1 _ _ _ s'' _ ((compStart (.GeneratorExp elt [⟨tg, iter, ifs, 0⟩] scope gpos) 0 (.ref it) .none ge).onRaise (leaving ge)) [] s''
          unfold compStart
          rw [Sem.onRaise_eq_wrap]
          show Seg _ A.in1 _ _ _ s'' _ ((ask >>= _).wrap _ _ _ _) [] s''
          refine seg_bind_wrap (wpAny_askSetting ?_)
          split
          · exact seg_again rfl gl
          · refine seg_bind_wrap (wpAny_rule (seg_bind_wrap (wpAny_standAt (seg_bind_wrap ?_))))
            exact Tn.self _ 0 _ _ _ (Tn.keep _ _ _ ti4 fun b hb o e => z.keep b o (hdis b hb) (k6 b o (by rw [h5]; exact kp5 b o e))) (seg_again rfl gl)
        · refine ⟨J3.call' (ch := fp) I'.os I'.base I'.hok I'.bare fun b hb => ⟨(fp4 b hb).1.2.2.2.1, (fp4 b hb).1.2.1, (fp4 b hb).1.2.2.2.2.1, (fp4 b hb).1.2.2.2.2.2⟩, fun b hb => J3.fpOk (Nat.le_trans (Nat.le_add_right _ 2) (S4 b hb)) (hn b hb)⟩
  cases hfc : codeAmong gpos ps.toList with
  | none =>
    refine wpAny_genexprCodeX hcode (cd.code hPs ht) (cd.tab hPs) hfc fun c' h' tk hx hge hlt hco' _ htab' _ => ?_
    obtain ⟨o1, vs, f1, tf, fl, tg, inF, tx, tt, op, _, _, _, _, _, _, _, _, _, htr, _⟩ := hco'
    exact cont _ h' tk _ _ rfl (fun b o hb e => hx b o hb e) htab'.2 htr
  | some cv =>
    refine wpAny_genexprCode_hit hcode (cd.code hPs ht) hfc ?_
    exact cont cv s2.heap s2.toks ps #[] (by simp) (fun _ _ _ e => e) hPs ht
end Sh
set_option Elab.async false
set_option linter.all false
set_option maxRecDepth 100000
set_option maxHeartbeats 1000000
set_option autoImplicit false
/-! ShH: who takes a generator expression's items: tuple, sorted, any, all, sum. -/
namespace Sh
open PySem PySem.Spec PyProof.Rows L2 GenW

section
variable {F : CF} {X : Cx} {pins : List (Addr × Obj)} {σ : L2.St} {G1 : Hp} {W1 : OW} {H1 : Hp} {outs : List D} {A : Around} {a : Addr} {g : Nat}
/-- the consumer's list -/
def CsL (K : PySem.W.Frag) (outs : List D) (S : Addr) (j : Nat) (G : Hp) (h : Heap) : Prop := ∃ (acc : Array Value) (c : Nat), h.get? S = some (lstObj acc c) ∧ ∃ vs, Vals vs acc.toList ∧ Rps K G vs (outs.take j)
theorem csL_law {K : PySem.W.Frag} {S : Addr} : CsLaw [S] (CsL K outs S) := ⟨fun j G G' h h' ⟨acc, c, e, vs, r1, r2⟩ le hs _ => ⟨acc, c, hs S (List.mem_singleton.mpr rfl) _ e, vs, r1, r2.mono le⟩⟩
theorem ext_loop {S : Addr} {res : Value} {R : Result → Shared → Prop} (hc : X.calm = true) (hh : A.handled = none) (hd : A.depth < recursionLimit) (hz : outs.length ≤ sizeLine) (hSa : S ≠ a)
    (hR : ∀ s' G2 H2 acc c vs, Inv X pins σ H2 s' → Step F.K F.T G1 W1 H1 G2 W1 H2 → FpOk X pins H2 S → s'.heap.get? S = some (lstObj acc c) → Vals vs acc.toList → Rps F.K G2 vs outs → R (.ok (.ret res)) s') :
    ∀ (k j : Nat) (s : Shared), outs.length - j = k → j ≤ outs.length → Asl F X pins σ G1 W1 H1 outs A.in1 [S] (CsL F.K outs S) a g j s → codeAny (model X.prog X.w) A (.builtin "list.extend.loop" ⟨[.ref S, .ref a, res], []⟩) R s := by
  intro k
  induction k with
  | zero =>
    intro j s hk hj h
    have e : j = outs.length := by omega
    subst e
    refine codeAny_builtin PySem.F.entry_extend_loop ?_
    rw [Around.under_plainId PySem.F.plain_extend_loop _]
    show wpAny _ A.in1 (pyNext (.ref a) >>= _) _ _ s
    refine wpAny_bind (h.done csL_law hc hh hd fun s1 G2 H2 I st hf hC => ?_)
    obtain ⟨acc, c, e, vs, r1, r2⟩ := hC
    rw [List.take_length] at r2
    exact wpAny_pure (hR s1 G2 H2 acc c vs I st (hf S (List.mem_singleton.mpr rfl)) e r1 r2)
  | succ k ih =>
    intro j s hk hj h
    have hlt : j < outs.length := by omega
    refine codeAny_builtin PySem.F.entry_extend_loop ?_
    rw [Around.under_plainId PySem.F.plain_extend_loop _]
    show wpAny _ A.in1 (pyNext (.ref a) >>= _) _ _ s
    refine wpAny_bind (h.item hc hh hd hlt fun v s1 x d G2 H2 hx rv rp I st hf hS hC nxt ig => ?_)
    obtain ⟨acc, c, e, vs, r1, r2⟩ := hC
    have hsz : acc.size = j := by
      have h1 := r1.length
      have h2 := r2.1
      rw [List.length_take] at h2
      simp only [Array.length_toList] at h1
      omega
    show wpAny _ A.in1 (updateSeq S (·.push v) >>= _) _ _ _
    refine wpAny_bind ?_
    have hnew := Heap.get?_update_self (Obj.mapSeq (·.push v)) e rfl
    refine wpAny_updateSeq e rfl (wpAny_pure ⟨plainId_quiet PySem.F.plain_extend_loop _, ih (j + 1) _ (by omega) hlt (nxt _ ⟨rfl, I.bare, fun b o hb q => ?_, fun b hb => ?_⟩ rfl ?_ ?_)⟩) (by rw [hsz]; omega) (by show (acc.push v).size ≤ sizeLine + 1; rw [Array.size_push, hsz]; omega)
    · exact (Heap.get?_update_other _ _ (fun z : S = b => hb (by rw [z]; exact List.mem_singleton.mpr rfl))).trans q
    · rw [List.mem_singleton] at hb
      subst hb
      exact ⟨_, hnew, fun v z => by cases z⟩
    · obtain ⟨o, nm, qn, q1, q2⟩ := ig
      exact ⟨o, nm, qn, (Heap.get?_update_other _ _ hSa).trans q1, q2⟩
    · refine ⟨acc.push v, _, hnew, vs ++ [x], ?_, ?_⟩
      · rw [Array.toList_push]
        exact r1.append (.cons rv .nil)
      · rw [List.take_add_one, hx]
        exact r2.snoc rp
end

section
variable {F : CF} {X : Cx} {pins : List (Addr × Obj)} {σ : L2.St} {G : Hp} {W W1 : OW} {H : Hp} {outs : List D} {A : Around} {E : Value → Shared → Prop}
/-- all items in a row -/
theorem collect_gen {u : Value} {s : Shared} {Q : List Value → Shared → Prop} (h : GMk F X pins σ G W H W1 outs u s) (hc : X.calm = true) (hA : A.frames = some X.stack) (hh : A.handled = none) (hd : A.depth + 3 * F.k + 5 < recursionLimit) (hu : A.units + 16 * F.k + 190 < cLine) (hk : 1 ≤ F.k) (hz : outs.length ≤ sizeLine)
    (hQ : ∀ us s' G2 H2 vs, Inv X pins σ H2 s' → Step F.K F.T G W H G2 W1 H2 → Vals vs us → Rps F.K G2 vs outs → Q us s') : wpAny (model X.prog X.w) A (collect u) Q E s := by
  obtain ⟨a, g, G1, H1, rfl, hlt, hg, hl, I1, st1, mk⟩ := h
  have hSa : s.heap.objs.size ≠ a := Nat.ne_of_gt hlt
  unfold collect
  refine wpAny_bind (wpAny_runValue (codeAny_builtin PySem.F.entry_proto_collect ?_))
  rw [Around.under_plainId PySem.F.plain_proto_collect _]
  show wpAny _ A.in1 (newList [] >>= fun l => again (.builtin "list.__iadd__" ⟨[l, .ref a], []⟩)) _ _ s
  refine wpAny_bind (wpAny_newObj_type ?_)
  refine wpAny_pure ⟨plainId_quiet PySem.F.plain_list_iadd _, codeAny_builtin PySem.F.entry_list_iadd ?_⟩
  rw [Around.under_plainId PySem.F.plain_list_iadd _]
  have k1 : ∀ b o, s.heap.get? b = some o → (s.heap.push { cls := .type "list", data := .seq ([] : List Value).toArray }).get? b = some o := fun b o e => Heap.get?_push_of_some _ e
  have hS₁ : (s.heap.push { cls := .type "list", data := .seq ([] : List Value).toArray }).get? s.heap.objs.size = some { cls := .type "list", data := .seq ([] : List Value).toArray } := Heap.get?_push_size _ rfl
  show wpAny _ A.in1 (Builtin.List.listExtendWith (.ref s.heap.objs.size) (.ref a) (.ref s.heap.objs.size)) _ _ _
  unfold Builtin.List.listExtendWith
  refine wpAny_bind (wpAny_typeOf (Heap.IsGen.typeIs (s := { s with heap := _ }) (hg.keeps k1)) ?_)
  have h1 : Builtin.List.listSameRef (.ref s.heap.objs.size) (.ref a) = false := by simp [Builtin.List.listSameRef, hSa]
  have h2 : (Value.type "generator" == Value.type "list") = false := by decide
  have h3 : (Value.type "generator" == Value.type "tuple") = false := by decide
  simp only [h1, h2, h3, Bool.or_false, Bool.false_eq_true, if_false]
  refine wpAny_bind (wpAny_pyIter_gen (s := { s with heap := _ }) (hg.keeps k1) ?_)
  refine wpAny_bind (wpAny_holding ?_)
  unfold Builtin.List.listLengthHint
  refine wpAny_bind (wpAny_specialOf (Heap.IsGen.typeIs (s := { s with heap := _ }) (hg.keeps k1)) PySem.F.gen_no_len ?_)
  show wpAny _ A.in1 (specialOf (Value.ref a) (Str.ofString "__length_hint__") >>= _) _ _ _
  refine wpAny_bind (wpAny_specialOf (Heap.IsGen.typeIs (s := { s with heap := _ }) (hg.keeps k1)) PySem.F.gen_no_hint ?_)
  refine wpAny_pure ?_
  show wpAny _ A.in1 (rule "list.extend.makes-room" >>= fun _ => Builtin.List.listTouch (.ref s.heap.objs.size) >>= fun _ =>
    again (.builtin "list.extend.loop" ⟨[.ref s.heap.objs.size, .ref a, .ref s.heap.objs.size], []⟩)) _ _ _
  refine wpAny_bind (wpAny_rule ?_)
  refine wpAny_bind ?_
  show wpAny _ A.in1 (updateSeq s.heap.objs.size (·.push .none) >>= fun _ => updateSeq s.heap.objs.size (·.pop)) _ _ _
  refine wpAny_bind (wpAny_updateSeq hS₁ rfl ?_)
  have hS₂ := Heap.get?_update_self (Obj.mapSeq (·.push Value.none)) hS₁ rfl
  refine wpAny_updateSeq hS₂ rfl ?_
  have hS₃ := Heap.get?_update_self (Obj.mapSeq (·.pop)) hS₂ rfl
  have kp : ∀ b o, s.heap.get? b = some o →
      (((s.heap.push { cls := .type "list", data := .seq ([] : List Value).toArray }).update s.heap.objs.size (Obj.mapSeq (·.push Value.none))).update s.heap.objs.size (Obj.mapSeq (·.pop))).get? b = some o :=
    fun b o e => (Heap.get?_update_other _ _ (Ne.symm (Nat.ne_of_lt (Heap.lt_size e)))).trans ((Heap.get?_update_other _ _ (Ne.symm (Nat.ne_of_lt (Heap.lt_size e)))).trans (k1 b o e))
  have dp : A.depth < recursionLimit := by omega
  refine wpAny_pure ⟨plainId_quiet PySem.F.plain_extend_loop _, ext_loop (res := .ref s.heap.objs.size) (S := s.heap.objs.size) (a := a) (g := g) hc hh dp hz hSa (fun s' G2 H2 acc c vs I st hf e r1 r2 => ?_) outs.length 0 _ (Nat.sub_zero _) (Nat.zero_le _)
    (mk A.in1 [s.heap.objs.size] (CsL F.K outs s.heap.objs.size) _ hh hA ⟨hh, ?_, ?_⟩ csL_law kp rfl rfl (fun b hb => ?_) fun G => ⟨_, _, hS₃, [], .nil, .nil⟩)⟩
  · show wpAny _ A (load s.heap.objs.size >>= _) _ _ s'
    refine wpAny_bind (wpAny_load e ?_)
    exact wpAny_pure (hQ _ _ G2 H2 vs I (st1.trans st) r1 r2)
  · show A.depth + 3 * (F.k - 1) + 5 < _
    omega
  · show A.units + 1 + 16 * (F.k - 1) + 200 < _
    omega
  · rw [List.mem_singleton] at hb
    subst hb
    exact ⟨Nat.le_refl _, _, hS₃, fun v z => by cases z⟩
end

/-- a generator expression, by what it hands out -/
def GenH (F : CF) (e : Expr) (Γ : Ga) (W : OW) (outs : List D) (W1 : OW) : Prop := 3 ≤ F.k ∧ ∀ (X : Cx) (pins : List (Addr × Obj)) (σ : L2.St) (G H : Hp) (s : Shared), Sat F X → Inv X pins σ H s → Slots F.K G Γ σ → Hk F.K F.T G W H → wpAny (model X.prog X.w) X.A (eval e X.env) (GMk F X pins σ G W H W1 outs) X.xe s
section
variable {F : CF} {Γ : Ga} {W W1 : OW} {outs : List D}
theorem gen_h {tg iter elt : Expr} {ifs : List Expr} {scope : Scope} {gpos : Pos} {own : List (Str × Nat)} {ds : List D} {Wk : OW → Prop} (acc : Nat → List D) (gt : GTab F) (hk2 : 3 ≤ F.k) (hN : F.N.Nodup) (ok : blkC F.N F.sc scope own = true) (gk : GScp scope) (hi : EI F tg iter Γ W ds Wk W1) (wk : Wk W1) (h0 : acc 0 = [])
    (hs : ∀ cd i d, ds[i]? = some d → Turn1 (F.gen scope cd) tg ifs elt (own.map (·.2)) (wipeG Γ (own.map (·.2))) d W1 (acc i) W1 (acc (i + 1))) (hf : ∀ env v, genFold iter env v = pure v := by intro _ _; rfl) : GenH F (.GeneratorExp elt [⟨tg, iter, ifs, 0⟩] scope gpos) Γ W (acc ds.length) W1 :=
  ⟨hk2, fun X pins σ G H s hX I sl hk => gen_mk hX gt hk2 hN (blkOk_by ok) gk hi wk h0 hs I sl hk hf⟩
end

/-! ### tuple -/
section
variable {F : CF} {X : Cx} {pins : List (Addr × Obj)} {σ : L2.St} {G : Hp} {W W1 : OW} {H : Hp} {outs : List D} {E : Value → Shared → Prop}
theorem code_tuple_new_g {A : Around} {u : Value} {s : Shared} {Q₁ : Value → Shared → Prop} (hty : s.TypeIs u "generator") (hcol : ∀ (E' : Value → Shared → Prop) (Q' : List Value → Shared → Prop), (∀ us s', us.length ≤ sizeLine → Q₁ (.ref s'.heap.objs.size) { s' with heap := s'.heap.push { cls := .type "tuple", data := .seq us.toArray } } → Q' us s') → wpAny (model X.prog X.w) A.in1 (collect u) Q' E' s) :
    codeAny (model X.prog X.w) A (.call (.builtin "tuple.__new__") ⟨[.type "tuple", u], []⟩) (wants Q₁ E) s := by
  refine codeAny_of_tree ?_
  show wpAny _ A.in1 (do checkBuiltinCall "tuple.__new__" ⟨[.type "tuple", u], []⟩; again (.builtin "tuple.__new__" ⟨[.type "tuple", u], []⟩)) _ _ s
  refine wpAny_bind (wpAny_of_eq (PySem.F.newCall_tuple_1 _) (wpAny_pure ⟨plainId_quiet PySem.F.plain_tuple_new _, codeAny_builtin PySem.F.entry_tuple_new ?_⟩))
  rw [Around.under_plainId PySem.F.plain_tuple_new _]
  have hsub := sub_tuple_self
  have hinit := init_tuple_lookup
  have hmh := madeHere_tuple
  wp_walk using wpAny_typeOf hty, hcol
  intro us s' hz hq
  show wpAny _ _ (Builtin.Tuple.tupleExact us.toArray >>= fun v => ret v) _ _ _
  unfold Builtin.Tuple.tupleExact
  refine wpAny_bind (wpAny_newObj_type ?_ (by show us.toArray.size ≤ sizeLine; rw [List.size_toArray]; exact hz))
  exact wpAny_pure hq

theorem call_tuple_g {A : Around} {u : Value} {s : Shared} {Q : VK} (h : GMk F X pins σ G W H W1 outs u s) (hc : X.calm = true) (hA : A.frames = some X.stack) (hh : A.handled = none) (hd : A.depth + 3 * F.k + 5 < recursionLimit) (hu : A.units + 3 + 16 * F.k + 190 < cLine) (hk : 1 ≤ F.k) (hz : outs.length ≤ sizeLine)
    (hQ : Kont F G W H (.ok (.tup outs)) W1 Q) : wpAny (model X.prog X.w) A (call (.type "tuple") [u]) (EP X pins σ Q) E s := by
  refine callType_codes (Q₁ := fun obj s₁ => s₁.TypeIs obj "tuple" ∧ EP X pins σ Q obj s₁) PySem.F.called_tuple (PySem.F.typeCall_tuple_1 _) PySem.F.entry_object_init
    (code_tuple_new_g (by obtain ⟨a, g, _, _, rfl, _, hg, _⟩ := h; exact hg.typeIs) fun E' Q' hq => collect_gen (A := A.in1.in1) h hc hA hh hd (by show A.units + 1 + 1 + 16 * F.k + 190 < _; omega) hk hz fun us s' G2 H2 vs I st r1 r2 => hq us s' (by rw [← r1.length, r2.1]; exact hz) ?_) fun obj s₁ h₁ => ?_
  · exact ⟨⟨_, Heap.get?_push_size _ rfl, rfl⟩, (Kont.newT (hQ.step st) st.hk r2).go I r1 (by rw [r2.1]; exact hz)⟩
  · exact ⟨h₁.1, PySem.F.args_object_init_2 obj _, object_init_meets PySem.F.called_tuple.init.lookup PySem.F.called_tuple.made (by decide) X.prog X.w A.in1 _ s₁ ⟨h₁.1, rfl, h₁.2⟩⟩
end
section
variable {F : CF} {Γ : Ga} {W W1 : OW} {outs : List D} {e : Expr} {p pos : Pos}
/-- tuple(x for ..) -/
theorem ev_tupG (hg : GlS F "tuple") (hm : F.mg "tuple" = none) (h : GenH F e Γ W outs W1) (hz : outs.length ≤ sizeLine) (he : ∀ env, starEach [e] env = (false, eval e env) :: starEach [] env := by intro _; rfl) : EV F (.Call (.Name "tuple" p) [e] [] pos) Γ W (.ok (.tup outs)) W1 :=
  fun G H σ Q sl hk k => ⟨fun σ H Q => Slots F.K G Γ σ ∧ Hk F.K F.T G W H ∧ Kont F G W H (.ok (.tup outs)) W1 Q, fun X hX => ⟨fun pins s σ H Q I ⟨sl, hk, k⟩ => by
    have hr := hX.room
    refine wpAny_Call_Name_kw (ld_blt I (hX.gl hg) (by rw [hX.mg]; exact hm) (u := .type "tuple") (by decide +kernel) ?_ (by decide) (by decide))
    refine PyProof.Rows.callWith_type1 ?_ (he _) rfl
    rw [he]
    show wpAny _ _ (spliced ((false, eval e X.env) :: backTo pos (starEach [] X.env))) _ _ s
    refine Calls.spliced_cons (thn (h.2 X pins σ G H s hX I sl hk) fun u s1 hG => ?_)
    refine Calls.spliced_nil ?_
    exact call_tuple_g hG hX.calm I.ok.frames hr.hd hr.dp (by have := hr.un; omega) (by have := h.1; omega) hz k⟩, sl, hk, k⟩
end

/-! ### sorted, of ints -/
section
variable {F : CF} {Γ : Ga} {W W1 : OW} {e : Expr} {p pos : Pos}
/-- sorted(x for ..), the items ints: a new list -/
theorem en_sortGI {ns ms : List Int} (hg : GlS F "sorted") (hm : F.mg "sorted" = none) (h : GenH F e Γ W (ns.map D.int) W1) (hz : ns.length ≤ sizeLine) (hs : ∀ ms', ms'.Perm ns → ms'.Pairwise (· ≤ ·) → ms' = ms) (he : ∀ env, starEach [e] env = (false, eval e env) :: starEach [] env := by intro _; rfl) : EN F (.Call (.Name "sorted" p) [e] [] pos) Γ W (ms.map D.int) W1 :=
  fun G H σ Q sl hk k => ⟨fun σ H Q => Slots F.K G Γ σ ∧ Hk F.K F.T G W H ∧ (∀ q G' H', H q = none → Step F.K F.T G W H G' ((q, .lst (ms.map D.int)) :: W1) H' → Q (.ref q) H'), fun X hX => ⟨fun pins s σ H Q I ⟨sl, hk, k⟩ => by
    have hr := hX.room
    refine wpAny_Call_Name_kw (ld_blt I (hX.gl hg) (by rw [hX.mg]; exact hm) (u := .builtin "sorted") (by decide +kernel) ?_ (by decide) (by decide))
    refine PyProof.Rows.callWith_builtin1 ?_ (he _) rfl
    rw [he]
    show wpAny _ _ (spliced ((false, eval e X.env) :: backTo pos (starEach [] X.env))) _ _ s
    refine Calls.spliced_cons (thn (h.2 X pins σ G H s hX I sl hk) fun u s1 hG => ?_)
    refine Calls.spliced_nil ?_
    refine Calls.call_function_entry kind_sorted plain_sorted entry_sorted (args_sorted1 _) ?_
    unfold Builtin.«sorted»
    refine wpAny_bind (m := checkCount "sorted" 1 1 _) (wpAny_pure ?_)
    refine wpAny_bind (collect_gen (A := X.A.in1) hG hX.calm I.ok.frames hr.hd hr.dp (by have := hr.un; show X.A.units + 1 + 16 * F.k + 190 < _; omega) (by have := h.1; omega) (by rw [List.length_map]; exact hz) fun us s2 G2 H2 vs I2 st r1 r2 => ?_)
    have evs := r2.ints
    subst evs
    have hl : us.length = ns.length := by rw [← r1.length, List.length_map]
    refine wpAny_bind (wpAny_newList ?_ (by rw [hl]; exact hz))
    have hoL : (s2.heap.push (seqObj "list" us.toArray 0)).get? s2.heap.objs.size = some (seqObj "list" us.toArray 0) := Heap.get?_push_size _ rfl
    refine wpAny_bind (wpAny_holding (wpAny_call_entry slot_list_sort ⟨_, hoL, rfl⟩ entry_list_sort (SrtO.list_sort_ord (s := { s2 with heap := s2.heap.push (seqObj "list" us.toArray 0) }) SrtO.swo_int hoL (by rw [hl]; exact hz) (fun h2 => SrtO.ints_sortable r1.ints h2) fun out o1 o2 => ⟨_, rfl, ?_⟩) (args_list_sort _)))
    refine wpAny_pure ⟨_, rfl, ?_⟩
    obtain ⟨k1, k2, k3⟩ := SrtO.ints_out r1.ints o1 o2
    have eo : out.map SrtO.iv = ms := hs _ k2 k3
    rw [eo] at k1 k2
    have hq : H2 s2.heap.objs.size = none := I2.hok.fresh (Nat.le_refl _)
    have hat := sortedHeap_at (vs := us) (out := out.toArray) hoL
    obtain ⟨ep, hat⟩ := hat
    refine ⟨.ref s2.heap.objs.size, upd H2 s2.heap.objs.size (.lst (ms.map V.int)), I2.laid (t' := s2.toks) (fun b o q => ?_) (Nat.le_refl _) ⟨?_, out, ep, vals_of_ints k1, hat⟩, rfl, ?_⟩
    · have lt := Heap.lt_size q
      rw [sortedHeap_old (Nat.ne_of_lt lt) (by rw [Heap.size_push]; exact Nat.lt_succ_of_lt lt)]
      exact Heap.get?_push_of_some _ q
    · rw [List.length_map, k2.length_eq]; exact hz
    · exact k _ _ _ (st.back hq) (st.trans (st.hk.allocO hq (w := .lst (ms.map D.int)) (o := .lst (ms.map V.int)) (Rps.of_ints ms)))⟩, sl, hk, k⟩
end

/-! ### any, all -/
section
variable {F : CF} {X : Cx} {pins : List (Addr × Obj)} {σ : L2.St} {G1 : Hp} {W1 : OW} {H1 : Hp} {bs : List Bool} {A : Around} {a : Addr} {g : Nat}
theorem csT_law : CsLaw [] fun _ _ _ => True := ⟨fun _ _ _ _ _ _ _ _ _ => trivial⟩
theorem any_loop {R : Result → Shared → Prop} (hc : X.calm = true) (hh : A.handled = none) (hd : A.depth < recursionLimit) (hR : ∀ s' G2 H2, Inv X pins σ H2 s' → Step F.K F.T G1 W1 H1 G2 W1 H2 → R (.ok (.ret (.bool (bs.any id)))) s') :
    ∀ (k j : Nat) (s : Shared), bs.length - j = k → j ≤ bs.length → (bs.take j).any id = false → Asl F X pins σ G1 W1 H1 (bs.map D.bl) A.in1 [] (fun _ _ _ => True) a g j s → codeAny (model X.prog X.w) A (.builtin "any.loop" ⟨[.ref a], []⟩) R s := by
  intro k
  induction k with
  | zero =>
    intro j s hk hj hb h
    have e : j = (bs.map D.bl).length := by rw [List.length_map]; omega
    rw [e] at h
    refine codeAny_builtin PySem.F.entry_any_loop ?_
    rw [Around.under_plainId PySem.F.plain_any_loop _]
    show wpAny _ A.in1 (pyNext (.ref a) >>= _) _ _ s
    refine wpAny_bind (h.done csT_law hc hh hd fun s1 G2 H2 I st _ _ => ?_)
    refine wpAny_bind (wpAny_rule (wpAny_pure ?_))
    have := hR s1 G2 H2 I st
    rw [List.take_of_length_le (by omega)] at hb
    rw [hb] at this
    exact this
  | succ k ih =>
    intro j s hk hj hb h
    have hlt : j < bs.length := by omega
    have hget : bs[j]? = some bs[j] := List.getElem?_eq_getElem hlt
    refine codeAny_builtin PySem.F.entry_any_loop ?_
    rw [Around.under_plainId PySem.F.plain_any_loop _]
    show wpAny _ A.in1 (pyNext (.ref a) >>= _) _ _ s
    refine wpAny_bind (h.item hc hh hd (by rw [List.length_map]; exact hlt) fun v s1 x d G2 H2 hx rv rp I st hf hS hC nxt ig => ?_)
    rw [List.getElem?_map, hget] at hx
    cases hx
    obtain rfl := rp.bl_inv
    obtain rfl := rv
    refine wpAny_bind (wpAny_holding (wpAny_truthy_bool ?_))
    refine wpAny_bind (wpAny_letGo ?_)
    cases hv : bs[j] with
    | false =>
      simp only [Bool.false_eq_true, if_false]
      refine wpAny_pure ⟨plainId_quiet PySem.F.plain_any_loop _, ih (j + 1) _ (by omega) hlt ?_ (nxt s1 (.refl I.bare fun b hb => by cases hb) rfl ig trivial)⟩
      rw [List.take_add_one, hget, hv, List.any_append, hb]
      rfl
    | true =>
      simp only [if_true]
      refine wpAny_bind (wpAny_rule (wpAny_pure ?_))
      have := hR s1 G2 H2 I st
      rw [show bs.any id = true from List.any_eq_true.mpr ⟨bs[j], List.getElem_mem hlt, hv⟩] at this
      exact this
theorem all_loop {R : Result → Shared → Prop} (hc : X.calm = true) (hh : A.handled = none) (hd : A.depth < recursionLimit) (hR : ∀ s' G2 H2, Inv X pins σ H2 s' → Step F.K F.T G1 W1 H1 G2 W1 H2 → R (.ok (.ret (.bool (bs.all id)))) s') :
    ∀ (k j : Nat) (s : Shared), bs.length - j = k → j ≤ bs.length → (bs.take j).all id = true → Asl F X pins σ G1 W1 H1 (bs.map D.bl) A.in1 [] (fun _ _ _ => True) a g j s → codeAny (model X.prog X.w) A (.builtin "all.loop" ⟨[.ref a], []⟩) R s := by
  intro k
  induction k with
  | zero =>
    intro j s hk hj hb h
    have e : j = (bs.map D.bl).length := by rw [List.length_map]; omega
    rw [e] at h
    refine codeAny_builtin PySem.F.entry_all_loop ?_
    rw [Around.under_plainId PySem.F.plain_all_loop _]
    show wpAny _ A.in1 (pyNext (.ref a) >>= _) _ _ s
    refine wpAny_bind (h.done csT_law hc hh hd fun s1 G2 H2 I st _ _ => ?_)
    refine wpAny_bind (wpAny_rule (wpAny_pure ?_))
    have := hR s1 G2 H2 I st
    rw [List.take_of_length_le (by omega)] at hb
    rw [hb] at this
    exact this
  | succ k ih =>
    intro j s hk hj hb h
    have hlt : j < bs.length := by omega
    have hget : bs[j]? = some bs[j] := List.getElem?_eq_getElem hlt
    refine codeAny_builtin PySem.F.entry_all_loop ?_
    rw [Around.under_plainId PySem.F.plain_all_loop _]
    show wpAny _ A.in1 (pyNext (.ref a) >>= _) _ _ s
    refine wpAny_bind (h.item hc hh hd (by rw [List.length_map]; exact hlt) fun v s1 x d G2 H2 hx rv rp I st hf hS hC nxt ig => ?_)
    rw [List.getElem?_map, hget] at hx
    cases hx
    obtain rfl := rp.bl_inv
    obtain rfl := rv
    refine wpAny_bind (wpAny_holding (wpAny_truthy_bool ?_))
    refine wpAny_bind (wpAny_letGo ?_)
    cases hv : bs[j] with
    | true =>
      simp only [if_true]
      refine wpAny_pure ⟨plainId_quiet PySem.F.plain_all_loop _, ih (j + 1) _ (by omega) hlt ?_ (nxt s1 (.refl I.bare fun b hb => by cases hb) rfl ig trivial)⟩
      rw [List.take_add_one, hget, hv, List.all_append, hb]
      rfl
    | false =>
      simp only [Bool.false_eq_true, if_false]
      refine wpAny_bind (wpAny_rule (wpAny_pure ?_))
      have := hR s1 G2 H2 I st
      rw [show bs.all id = false from Bool.eq_false_iff.mpr fun z => Bool.false_ne_true (hv.symm.trans (List.all_eq_true.mp z bs[j] (List.getElem_mem hlt)))] at this
      exact this
end
section
variable {F : CF} {Γ : Ga} {W W1 : OW} {e : Expr} {p pos : Pos} {bs : List Bool}
theorem ev_anyG (hg : GlS F "any") (hm : F.mg "any" = none) (h : GenH F e Γ W (bs.map D.bl) W1) (he : ∀ env, starEach [e] env = (false, eval e env) :: starEach [] env := by intro _; rfl) : EV F (.Call (.Name "any" p) [e] [] pos) Γ W (.ok (.bl (bs.any id))) W1 :=
  fun G H σ Q sl hk k => ⟨fun σ H Q => Slots F.K G Γ σ ∧ Hk F.K F.T G W H ∧ Kont F G W H (.ok (.bl (bs.any id))) W1 Q, fun X hX => ⟨fun pins s σ H Q I ⟨sl, hk, k⟩ => by
    have hr := hX.room
    refine wpAny_Call_Name_kw (ld_blt I (hX.gl hg) (by rw [hX.mg]; exact hm) boot_any ?_)
    refine PyProof.Rows.callWith_builtin1 ?_ (he _) rfl
    rw [he]
    show wpAny _ _ (spliced ((false, eval e X.env) :: backTo pos (starEach [] X.env))) _ _ s
    refine Calls.spliced_cons (thn (h.2 X pins σ G H s hX I sl hk) fun u s1 ⟨a, g, G1, H1, eu, hlt, hgn, hl, I1, st1, mk⟩ => ?_)
    subst eu
    refine Calls.spliced_nil ?_
    refine call_function_tree PySem.F.kind_any PySem.F.plain_any PySem.F.entry_any (PySem.F.args_any1 _) ?_
    unfold Builtin.«any»
    refine wpAny_bind (m := oneArg "any" _) (wpAny_pure ?_)
    refine wpAny_bind (wpAny_pyIter_gen hgn ?_)
    have h3 := h.1
    refine wpAny_pure ⟨plainId_quiet PySem.F.plain_any_loop _, any_loop (bs := bs) (F := F) (pins := pins) (σ := σ) (a := a) (g := g) hX.calm hr.hd (by have := hr.dp; show X.A.depth < _; omega) (fun s' G2 H2 I2 st2 => ?_) bs.length 0 _ (Nat.sub_zero _) (Nat.zero_le _) rfl (mk X.A.in1 [] _ s1 hr.hd I.ok.frames ⟨hr.hd, ?_, ?_⟩ csT_law (fun _ _ e => e) rfl rfl (fun b hb => by cases hb) fun _ => trivial)⟩
    · exact ⟨.bl _, H2, I2, rfl, k _ _ _ (st1.trans st2) (.bl _)⟩
    · have := hr.dp
      show X.A.depth + 3 * (F.k - 1) + 5 < _
      omega
    · have := hr.un
      show X.A.units + 1 + 16 * (F.k - 1) + 200 < _
      omega⟩, sl, hk, k⟩
theorem ev_allG (hg : GlS F "all") (hm : F.mg "all" = none) (h : GenH F e Γ W (bs.map D.bl) W1) (he : ∀ env, starEach [e] env = (false, eval e env) :: starEach [] env := by intro _; rfl) : EV F (.Call (.Name "all" p) [e] [] pos) Γ W (.ok (.bl (bs.all id))) W1 :=
  fun G H σ Q sl hk k => ⟨fun σ H Q => Slots F.K G Γ σ ∧ Hk F.K F.T G W H ∧ Kont F G W H (.ok (.bl (bs.all id))) W1 Q, fun X hX => ⟨fun pins s σ H Q I ⟨sl, hk, k⟩ => by
    have hr := hX.room
    refine wpAny_Call_Name_kw (ld_blt I (hX.gl hg) (by rw [hX.mg]; exact hm) (u := .builtin "all") (by decide +kernel) ?_)
    refine PyProof.Rows.callWith_builtin1 ?_ (he _) rfl
    rw [he]
    show wpAny _ _ (spliced ((false, eval e X.env) :: backTo pos (starEach [] X.env))) _ _ s
    refine Calls.spliced_cons (thn (h.2 X pins σ G H s hX I sl hk) fun u s1 ⟨a, g, G1, H1, eu, hlt, hgn, hl, I1, st1, mk⟩ => ?_)
    subst eu
    refine Calls.spliced_nil ?_
    refine call_function_tree PySem.F.kind_all PySem.F.plain_all PySem.F.entry_all (PySem.F.args_all1 _) ?_
    unfold Builtin.«all»
    refine wpAny_bind (m := oneArg "all" _) (wpAny_pure ?_)
    refine wpAny_bind (wpAny_pyIter_gen hgn ?_)
    have h3 := h.1
    refine wpAny_pure ⟨plainId_quiet PySem.F.plain_all_loop _, all_loop (bs := bs) (F := F) (pins := pins) (σ := σ) (a := a) (g := g) hX.calm hr.hd (by have := hr.dp; show X.A.depth < _; omega) (fun s' G2 H2 I2 st2 => ?_) bs.length 0 _ (Nat.sub_zero _) (Nat.zero_le _) rfl (mk X.A.in1 [] _ s1 hr.hd I.ok.frames ⟨hr.hd, ?_, ?_⟩ csT_law (fun _ _ e => e) rfl rfl (fun b hb => by cases hb) fun _ => trivial)⟩
    · exact ⟨.bl _, H2, I2, rfl, k _ _ _ (st1.trans st2) (.bl _)⟩
    · have := hr.dp
      show X.A.depth + 3 * (F.k - 1) + 5 < _
      omega
    · have := hr.un
      show X.A.units + 1 + 16 * (F.k - 1) + 200 < _
      omega⟩, sl, hk, k⟩
end
end Sh
set_option Elab.async false
set_option linter.all false
set_option maxRecDepth 100000
set_option maxHeartbeats 1000000
set_option autoImplicit false
/-! ShI: enumerate, zip, keys of a dict; dict comprehensions. -/
namespace Sh
open PySem PySem.Spec PyProof.Rows L2

/-- a new object that nobody is told of -/
theorem Hk.junk {K : PySem.W.Frag} {T : Tb} {G H : Hp} {W : OW} (h : Hk K T G W H) {p : Addr} {o : HO} (hp : H p = none) : Step K T G W H G W (upd H p o) := by
  have ne : ∀ a u, H a = some u → a ≠ p := fun a u e => ne_of_none e hp
  refine ⟨.refl G, fun _ _ q => .inl q, fun _ q => .inl q, fun a u q _ _ => by rw [upd_ne (ne a u q)]; exact q, fun a u q => ⟨u, by rw [upd_ne (ne a u q)]; exact q⟩, fun a u q => by rw [upd_ne (ne a u (h.sub a u q))]; exact h.sub a u q, h.ntb, h.nod, fun q hq => ?_, h.tab.upd ⟨fun ps e => ?_, fun c x e => ?_⟩⟩
  · obtain ⟨h1, u, h2, h3⟩ := h.own q hq
    exact ⟨h1, u, by rw [upd_ne (ne _ u h2)]; exact h2, h3⟩
  · rw [hp] at e; cases e
  · rw [hp] at e; cases e
def enumD (ds : List D) : List D := ds.mapIdx fun i d => .pr [.int (i : Nat), d]
theorem enumD_get {ds : List D} {i : Nat} {d : D} (h : (enumD ds)[i]? = some d) : ∃ x, ds[i]? = some x ∧ d = .pr [.int (i : Nat), x] := by
  unfold enumD at h
  rw [List.getElem?_mapIdx] at h
  cases e : ds[i]? with
  | none => rw [e] at h; cases h
  | some x =>
    rw [e] at h
    cases h
    exact ⟨x, rfl, rfl⟩
theorem enumD_len (ds : List D) : (enumD ds).length = ds.length := by
  unfold enumD
  rw [List.length_mapIdx]
def zipD (xs ys : List D) : List D := List.zipWith (fun x y => .pr [x, y]) xs ys
theorem zipD_get {xs ys : List D} {i : Nat} {d : D} (h : (zipD xs ys)[i]? = some d) : ∃ x y, xs[i]? = some x ∧ ys[i]? = some y ∧ d = .pr [x, y] := by
  unfold zipD at h
  rw [List.getElem?_zipWith] at h
  cases e : xs[i]? with
  | none => rw [e] at h; cases h
  | some x =>
    cases e2 : ys[i]? with
    | none => rw [e, e2] at h; cases h
    | some y =>
      rw [e, e2] at h
      cases h
      exact ⟨x, y, rfl, rfl, rfl⟩
theorem zipD_len (xs ys : List D) : (zipD xs ys).length = min xs.length ys.length := by
  unfold zipD
  rw [List.length_zipWith]
theorem Rp.key {K : PySem.W.Frag} {G : Hp} : ∀ k : Key, Rp K G (kV k) (kD k)
  | .inl i => .int i
  | .inr x => .str x
theorem Rpk.len {κ : Type} {K : PySem.W.Frag} {G : Hp} {kvs : List (κ × V)} {ds : List (κ × D)} (h : Rpk K G kvs ds) : kvs.length = ds.length := by
  have := congrArg List.length h.1
  simpa using this
section
variable {F : CF} {Γ : Ga} {W W1 W2 W3 : OW} {pos p tpos : Pos} {a b c e : Expr} {d d1 d2 d3 : D} {o : Out} {elts : List Expr} {kk : Nat}
theorem ei_enumL {ds : List D} (hg : GlS F "enumerate") (hm : F.mg "enumerate" = none) (h : EV F e Γ W (.ok d) W1) (hd : AsL W1 d ds) (hs : ∀ env, starEach [e] env = [(false, eval e env)] := by intro _; rfl) :
    EI F (.Tuple elts kk tpos) (.Call (.Name "enumerate" p) [e] [] pos) Γ W (enumD ds) (fun W' => AsL W' d ds) W1 :=
  fun G H σ R sl hk k => ⟨iEnum F.K (cA F [e]), fun X hX => hX.K ▸ pi_enum (hX.gl hg) (by rw [hX.mg]; exact hm) (cA_pa hX) (hs _), (ea_cons h ea_nil (fun env => by rw [hs]; rfl)) G H σ _ sl hk fun vs G1 H1 s1 rs => by
    obtain ⟨v, rfl, r1⟩ := rs.one
    obtain ⟨a, vs, rfl, e1, q1⟩ := hd.at s1.hk r1
    refine ⟨a, vs, rfl, SqL.of e1, k _ G1 H1 s1 fun G' W' H' le hk' wk i => ?_⟩
    obtain ⟨a', vs', ea, e2, q2⟩ := wk.at hk' (r1.mono le)
    cases ea
    refine ⟨fun d hd => ?_, fun hi => ⟨vs', SqL.of e2, by rw [q2.1, ← enumD_len]; exact hi⟩⟩
    obtain ⟨x, hx, rfl⟩ := enumD_get hd
    obtain ⟨v, ev, rv⟩ := q2.get hx
    refine ⟨⟨vs', v, SqL.of e2, ev⟩, fun y H'' q => ?_⟩
    obtain ⟨T, x', rfl, nT, rfl, f⟩ := q
    have := f vs' (SqL.of e2)
    rw [ev] at this
    cases this
    exact ⟨hk'.junk nT, .inr ⟨T, _, _, rfl, upd_same, rfl, (Rps.nil.cons rv).cons (.int _)⟩⟩⟩
theorem ei_zipL {xs ys : List D} (hg : GlS F "zip") (hm : F.mg "zip" = none) (h : EA F [a, b] Γ W (.ok [d1, d2]) W1) (hd1 : AsL W1 d1 xs) (hd2 : AsL W1 d2 ys) (hs : ∀ env, starEach [a, b] env = (false, eval a env) :: starEach [b] env := by intro _; rfl) (hpl : ∀ env, (backTo pos (starEach [b] env)).any (·.1) = false := by intro _; rfl) :
    EI F (.Tuple elts kk tpos) (.Call (.Name "zip" p) [a, b] [] pos) Γ W (zipD xs ys) (fun W' => AsL W' d1 xs ∧ AsL W' d2 ys) W1 :=
  fun G H σ R sl hk k => ⟨RZ.iZipA F.K (cA F [a, b]), fun X hX => hX.K ▸ RZ.pi_zipA (hX.gl hg) (by rw [hX.mg]; exact hm) (cA_pa hX) (hs _) (hpl _), h G H σ _ sl hk fun vs G1 H1 s1 rs => by
    obtain ⟨v, w, rfl, r1, r2⟩ := rs.two
    obtain ⟨a, vs, rfl, e1, q1⟩ := hd1.at s1.hk r1
    obtain ⟨b, ws, rfl, e2, q2⟩ := hd2.at s1.hk r2
    refine ⟨a, b, vs, ws, rfl, .inl ⟨SqL.of e1, SqL.of e2, k _ G1 H1 s1 fun G' W' H' le hk' wk i => ?_⟩⟩
    obtain ⟨a', vs', ea, e1, q1⟩ := wk.1.at hk' (r1.mono le)
    cases ea
    obtain ⟨b', ws', eb, e2, q2⟩ := wk.2.at hk' (r2.mono le)
    cases eb
    refine ⟨fun d hd => ?_, fun hi => ⟨vs', ws', SqL.of e1, SqL.of e2, ?_⟩⟩
    · obtain ⟨x, y, hx, hy, rfl⟩ := zipD_get hd
      obtain ⟨v, ev, rv⟩ := q1.get hx
      obtain ⟨w, ew, rw'⟩ := q2.get hy
      refine ⟨⟨vs', ws', v, w, SqL.of e1, SqL.of e2, ev, ew⟩, fun z H'' q => ?_⟩
      obtain ⟨T, x', y', rfl, nT, rfl, f, g⟩ := q
      have t1 := f vs' (SqL.of e1)
      have t2 := g ws' (SqL.of e2)
      rw [ev] at t1
      rw [ew] at t2
      cases t1
      cases t2
      exact ⟨hk'.junk nT, .inr ⟨T, _, _, rfl, upd_same, rfl, (Rps.nil.cons rw').cons rv⟩⟩
    · rw [zipD_len] at hi
      rw [q1.1, q2.1]
      omega⟩
theorem ei_zipT {xs ys : List D} (hg : GlS F "zip") (hm : F.mg "zip" = none) (h : EA F [a, b] Γ W (.ok [.tup xs, .tup ys]) W1) (hs : ∀ env, starEach [a, b] env = (false, eval a env) :: starEach [b] env := by intro _; rfl) (hpl : ∀ env, (backTo pos (starEach [b] env)).any (·.1) = false := by intro _; rfl) :
    EI F (.Tuple elts kk tpos) (.Call (.Name "zip" p) [a, b] [] pos) Γ W (zipD xs ys) (fun W' => True) W1 :=
  fun G H σ R sl hk k => ⟨RZ.iZipA F.K (cA F [a, b]), fun X hX => hX.K ▸ RZ.pi_zipA (hX.gl hg) (by rw [hX.mg]; exact hm) (cA_pa hX) (hs _) (hpl _), h G H σ _ sl hk fun vs G1 H1 s1 rs => by
    obtain ⟨v, w, rfl, r1, r2⟩ := rs.two
    obtain ⟨a, vs, rfl, e1, q1⟩ := r1.tup_inv
    obtain ⟨b, ws, rfl, e2, q2⟩ := r2.tup_inv
    refine ⟨a, b, vs, ws, rfl, .inr ⟨sqt_up s1.hk e1, sqt_up s1.hk e2, k _ G1 H1 s1 fun G' W' H' le hk' wk i => ?_⟩⟩
    have f1 : SqT F.K H' a vs := Le.st (le.trans hk'.sub) e1.sq
    have f2 : SqT F.K H' b ws := Le.st (le.trans hk'.sub) e2.sq
    refine ⟨fun d hd => ?_, fun hi => ⟨vs, ws, f1, f2, ?_⟩⟩
    · obtain ⟨x, y, hx, hy, rfl⟩ := zipD_get hd
      obtain ⟨v, ev, rv⟩ := q1.get hx
      obtain ⟨w, ew, rw'⟩ := q2.get hy
      refine ⟨⟨vs, ws, v, w, f1, f2, ev, ew⟩, fun z H'' q => ?_⟩
      obtain ⟨T, x', y', rfl, nT, rfl, f, g⟩ := q
      have t1 := f vs f1
      have t2 := g ws f2
      rw [ev] at t1
      rw [ew] at t2
      cases t1
      cases t2
      exact ⟨hk'.junk nT, .inr ⟨T, _, _, rfl, upd_same, rfl, (Rps.nil.cons (rw'.mono le)).cons (rv.mono le)⟩⟩
    · rw [zipD_len] at hi
      rw [q1.1, q2.1]
      omega⟩

/-! ### new dicts -/
def END (F : CF) (e : Expr) (Γ : Ga) (W : OW) (ds : List (Key × D)) (W' : OW) : Prop := ∀ (G H : Hp) (σ : L2.St) (Q : VK), Slots F.K G Γ σ → Hk F.K F.T G W H →
  (∀ p G' H', H p = none → Step F.K F.T G W H G' ((p, .dK ds) :: W') H' → Q (.ref p) H') → cE F e σ H Q
theorem evr_newD {P : D → OW → Prop} {ds : List (Key × D)} (h : END F e Γ W ds W1) (hp : ∀ q, P (.ptr q) ((q, .dK ds) :: W1)) : EVR F e Γ W P := fun G H σ Q sl hk k => h G H σ Q sl hk fun q G' H' _ s => k _ _ _ _ _ (hp q) s (.ptr q)
/-- len of a new dict -/
theorem ev_lenN {ds : List (Key × D)} (hg : GlS F "len") (hm : F.mg "len" = none) (ha : END F a Γ W ds W1) (he : ∀ env, starEach [a] env = (false, eval a env) :: starEach [] env := by intro _; rfl) : EV F (.Call (.Name "len" p) [a] [] pos) Γ W (.ok (.int ds.length)) W1 :=
  fun G H σ Q sl hk k => ⟨tCB (fun xs H Q => ∃ a kvs, xs = [V.ref a] ∧ H a = some (.dK kvs) ∧ Q (.int kvs.length) H) (tCons (cE F a) tNil), fun X hX => pe_callB call_lenD (hX.gl hg) (by rw [hX.mg]; exact hm) (by decide +kernel) (pa_cons (cE_pe hX) pa_nil (he _)) (he := he _), ha G H σ _ sl hk fun q G1 H1 hq s1 => by
    obtain ⟨_, ob, eo, ro⟩ := s1.hk.own _ List.mem_cons_self
    obtain ⟨kvs, rfl, ro⟩ := ro.dK_inv
    refine ⟨q, kvs, rfl, eo, ?_⟩
    rw [Rpk.len ro]
    exact k _ G1 H1 (s1.drop (List.sublist_cons_self _ _)) (.int _)⟩
/-- the value's object is known from now on -/
def tLk (t : TE) : TE := fun σ H Q => t σ H fun v H' => ∃ d u, v = .ref d ∧ H' d = some u ∧ Mut (some u) ∧ ∀ od, Q v (upd H' d (.frz od u))
theorem pe_lk {X : Cx} {t : TE} (h : PE X e t) : PE X e (tLk t) := by
  refine ⟨fun pins s σ H Q I hw => thn (h.run pins s σ H _ I hw) fun v s1 ⟨x, H1, I1, r, d, u, e1, e2, mu, q⟩ => ?_⟩
  obtain ⟨od, I2⟩ := I1.lock e2 mu
  exact ⟨x, _, I2, r, q od⟩
/-- the keys of a new dict -/
theorem ei_keysN {tg : Expr} {ds : List (Key × D)} (h : END F e Γ W ds W1) : EI F tg e Γ W (ds.map fun kv => kD kv.1) (fun _ => True) W1 :=
  fun G H σ R sl hk k => ⟨iKeys (tLk (cE F e)), fun X hX => pi_keys (pe_lk (cE_pe hX)), h G H σ _ sl hk fun q G1 H1 hq s1 => by
    obtain ⟨gq, ob, eo, ro⟩ := s1.hk.own _ List.mem_cons_self
    obtain ⟨kvs, rfl, ro⟩ := ro.dK_inv
    refine ⟨q, _, rfl, eo, trivial, fun od => ⟨q, od, rfl, .inl ⟨kvs, upd_same, ?_⟩⟩⟩
    have st1 := s1.hk.write (i := 0) (a := q) (w := .dK ds) (w' := .raw (.frz od (.dK kvs))) (o' := .frz od (.dK kvs)) rfl ⟨rfl, fun ps z => by cases z⟩ (fun c x z => by
      have eo' : H1 q = some (.dK kvs) := eo
      rw [eo'] at z; cases z)
    obtain ⟨o2, e2, r2, st2⟩ := st1.hk.freeze (i := 0) (a := q) rfl
    have e3 : o2 = .frz od (.dK kvs) := by
      rw [upd_same] at e2
      exact (Option.some.inj e2).symm
    subst e3
    refine k _ _ _ ((s1.trans st1).trans st2) fun G' W' H' le hk' wk i => ?_
    have hd' : H' q = some (.frz od (.dK kvs)) := hk'.sub q _ (le q _ upd_same)
    refine ⟨fun d hd => ?_, fun hi => ⟨hd', ?_⟩⟩
    · rw [List.getElem?_map] at hd
      cases hx : ds[i]? with
      | none => rw [hx] at hd; cases hd
      | some kv =>
        rw [hx] at hd
        cases hd
        have hl := Rpk.len ro
        have hlt : i < kvs.length := by
          rw [hl]
          exact (List.getElem?_eq_some_iff.mp hx).1
        have hk2 : (kvs.map (·.1))[i]? = some kv.1 := by
          rw [ro.1, List.getElem?_map, hx]
          rfl
        refine ⟨⟨hd', hlt⟩, fun x H'' y => ?_⟩
        obtain ⟨rfl, k0, v0, e4, rfl⟩ := y
        rw [List.getElem?_map, e4] at hk2
        cases hk2
        refine ⟨.refl hk', .inl ?_⟩
        exact Rp.key _
    · rw [List.length_map, ← Rpk.len ro] at hi
      exact hi⟩

/-! ### dict comprehensions -/
def putD {κ : Type} [DecidableEq κ] (kvs : List (κ × D)) (k : κ) (v : D) : List (κ × D) :=
  if (kvs.any fun kv => decide (kv.1 = k)) = true then kvs.map (fun kv => if kv.1 = k then (kv.1, v) else kv) else kvs ++ [(k, v)]
theorem Rpk.any {κ : Type} [DecidableEq κ] {K : PySem.W.Frag} {G : Hp} {kvs : List (κ × V)} {ds : List (κ × D)} (h : Rpk K G kvs ds) (k : κ) : (kvs.any fun kv => decide (kv.1 = k)) = ds.any fun kv => decide (kv.1 = k) := by
  have e1 : (kvs.any fun kv => decide (kv.1 = k)) = (kvs.map (·.1)).any fun x => decide (x = k) := by
    rw [List.any_map]
    rfl
  have e2 : (ds.any fun kv => decide (kv.1 = k)) = (ds.map (·.1)).any fun x => decide (x = k) := by
    rw [List.any_map]
    rfl
  rw [e1, e2, h.1]
theorem Rpk.cons {κ : Type} {K : PySem.W.Frag} {G : Hp} {kvs : List (κ × V)} {ds : List (κ × D)} {k : κ} {v : V} {d : D} (h : Rpk K G kvs ds) (r : Rp K G v d) : Rpk K G ((k, v) :: kvs) ((k, d) :: ds) :=
  ⟨by rw [List.map_cons, List.map_cons, h.1], by rw [List.map_cons, List.map_cons]; exact h.2.cons r⟩
theorem Rpk.snoc {κ : Type} {K : PySem.W.Frag} {G : Hp} {kvs : List (κ × V)} {ds : List (κ × D)} {k : κ} {v : V} {d : D} (h : Rpk K G kvs ds) (r : Rp K G v d) : Rpk K G (kvs ++ [(k, v)]) (ds ++ [(k, d)]) :=
  ⟨by rw [List.map_append, List.map_append, h.1]; rfl, by rw [List.map_append, List.map_append]; exact h.2.snoc r⟩
theorem Rpk.subst {κ : Type} [DecidableEq κ] {K : PySem.W.Frag} {G : Hp} {k : κ} {v : V} {d : D} (r : Rp K G v d) : ∀ {ds : List (κ × D)} {kvs : List (κ × V)}, Rpk K G kvs ds → Rpk K G (kvs.map fun kv => if kv.1 = k then (kv.1, v) else kv) (ds.map fun kv => if kv.1 = k then (kv.1, d) else kv)
  | [], kvs, h => by
    rw [h.inv0]
    exact .nil
  | (j, x) :: ds, kvs, h => by
    obtain ⟨u, vs, rfl, r1, t⟩ := h.inv
    rw [List.map_cons, List.map_cons]
    by_cases e : j = k
    · rw [if_pos e, if_pos e]
      exact (Rpk.subst r t).cons r
    · rw [if_neg e, if_neg e]
      exact (Rpk.subst r t).cons r1
theorem Rpk.put {κ : Type} [DecidableEq κ] {K : PySem.W.Frag} {G : Hp} {kvs : List (κ × V)} {ds : List (κ × D)} {k : κ} {v : V} {d : D} (h : Rpk K G kvs ds) (r : Rp K G v d) : Rpk K G (putK kvs k v) (putD ds k d) := by
  unfold putK putD
  rw [h.any]
  split
  · exact h.subst r
  · exact h.snoc r
theorem putD_len {κ : Type} [DecidableEq κ] (ds : List (κ × D)) (k : κ) (d : D) : (putD ds k d).length ≤ ds.length + 1 := by
  unfold putD
  split
  · rw [List.length_map]; omega
  · rw [List.length_append]; exact Nat.le_refl _
/-- one turn -/
def Turn1K (F : CF) (tg : Expr) (ifs : List Expr) (kx vx : Expr) (vs : List Nat) (Γ0 : Ga) (d : D) (W : OW) (acc acc' : List (Key × D)) : Prop :=
  ∃ Γ1 ts, EG F (SatG F) tg Γ0 d Γ1 ts ∧ (∀ t ∈ ts, t ∈ vs) ∧ ∃ r, ETs F ifs Γ1 W r W ∧ (r = true → ∃ k y, EV F kx Γ1 W (.ok (kD k)) W ∧ EV F vx Γ1 W (.ok y) W ∧ acc' = putD acc k y) ∧ (r = false → acc' = acc)
theorem en_dc {tg iter kx vx : Expr} {ifs : List Expr} {scope : Scope} {own : List (Str × Nat)} {ds : List D} {Wk : OW → Prop} (hN : F.N.Nodup) (ok : blkC F.N F.sc scope own = true) (hi : EI F tg iter Γ W ds Wk W1) (wk : Wk W1) (acc : Nat → List (Key × D)) (h0 : acc 0 = [])
    (hs : ∀ i d, ds[i]? = some d → Turn1K (F.blk scope) tg ifs kx vx (own.map (·.2)) (wipeG Γ (own.map (·.2))) d W1 (acc i) (acc (i + 1))) (hz : ds.length < sizeLine) (hf : ∀ env x, foldedSetIterable iter env x = pure x := by intro _ _; rfl) :
    END F (.DictComp kx vx [⟨tg, iter, ifs, 0⟩] scope pos) Γ W (acc ds.length) W1 := by
  have hacc : ∀ i, i ≤ ds.length → (acc i).length ≤ i := by
    intro i
    induction i with
    | zero => intro _; rw [h0]; exact Nat.le_refl _
    | succ i ih =>
      intro hi'
      obtain ⟨Γ1, ts, _, _, r, _, h1, h2⟩ := hs i ds[i] (List.getElem?_eq_getElem hi')
      have := ih (by omega)
      cases r with
      | true =>
        obtain ⟨k, y, _, _, e⟩ := h1 rfl
        rw [e]
        have := putD_len (acc i) k y
        omega
      | false =>
        rw [h2 rfl]
        omega
  refine fun G H σ Q sl hk k => ⟨tDc (cI F tg iter) (cG (SatG (F.blk scope)) tg) (cTs (F.blk scope) ifs) (cE (F.blk scope) kx) (cE (F.blk scope) vx) (own.map (·.2)), fun X hX => pe_dc hX.calm (by rw [hX.N]; exact hN) (cI_pi hX) (blkOk_by (by rw [hX.N, hX.sc]; exact ok))
      (fun s H C cl fp => cG_pg ⟨hX.blk scope s H C cl fp, by show X.N.Nodup; rw [hX.N]; exact hN⟩) (fun s H C cl fp => cTs_pts (hX.blk scope s H C cl fp)) (fun s H C cl fp => cE_pe (hX.blk scope s H C cl fp)) (fun s H C cl fp => cE_pe (hX.blk scope s H C cl fp)) (hf _), ?_⟩
  generalize hvs : own.map (·.2) = vs at *
  refine hi G H σ _ sl hk fun J G1 H1 s1 wl D hD => ?_
  have s2 := s1.hk.allocO (w := .dK []) (o := .dK []) hD Rpk.nil
  have hD0 := s1.back hD
  refine ⟨fun i m H' => m = ds.length - i ∧ i ≤ ds.length ∧ ∃ G', Step F.K F.T G W H G' (W1 ++ [(D, .dK (acc i))]) H' ∧ Le G1 G', ⟨ds.length, by simp, Nat.zero_le _, G1, ?_, Le.refl _⟩, ?_⟩
  · rw [h0]
    exact (s1.trans s2).perm (List.Perm.refl _) (List.perm_append_comm (l₁ := [(D, AO.dK [])]) (l₂ := W1))
  · rintro i m H' ⟨rfl, hil, G', st, le⟩
    have hkW : Hk F.K F.T G' W1 H' := st.hk.less (List.sublist_append_left _ _)
    obtain ⟨w1, w2⟩ := wl G' W1 H' le hkW wk i
    by_cases hlt : i < ds.length
    · obtain ⟨go, w3⟩ := w1 ds[i] (List.getElem?_eq_getElem hlt)
      refine .inr ⟨go, fun H2 => ∃ G2, Step F.K F.T G W H G2 (W1 ++ [(D, .dK (acc (i + 1)))]) H2 ∧ Le G1 G2, fun H2 q => ⟨ds.length - (i + 1), by omega, rfl, hlt, q⟩, fun x H2 y => ?_⟩
      obtain ⟨s3, y3⟩ := w3 x H2 y
      obtain ⟨Γ1, ts, hg, hts, r, ht, h1, h2⟩ := hs i ds[i] (List.getElem?_eq_getElem hlt)
      have st3 := st.trans (s3.more st.hk)
      refine hg G' H2 x (L2.wipe σ vs) _ ((sl.mono (s1.le.trans le)).wipe vs) s3.hk.sub y3 fun σ2 sl2 bt => ⟨wipe_but bt hts, ?_⟩
      refine ht G' H2 σ2 _ sl2 s3.hk fun G3 H3 s4 => ?_
      have st4 := st3.trans (s4.more st3.hk)
      cases r with
      | true =>
        rw [if_pos rfl]
        obtain ⟨q, y, hq, hy, ea⟩ := h1 rfl
        refine hq G3 H3 σ2 _ (sl2.mono s4.le) s4.hk fun qv G4 H4 s5 rq => ?_
        have st5 := st4.trans (s5.more st4.hk)
        refine hy G4 H4 σ2 _ ((sl2.mono s4.le).mono s5.le) s5.hk fun v G5 H5 s6 rv => ?_
        have st6 := st5.trans (s6.more st5.hk)
        have hix : (W1 ++ [(D, AO.dK (acc i))])[W1.length]? = some (D, .dK (acc i)) := by
          rw [List.getElem?_append_right (Nat.le_refl _), Nat.sub_self]
          rfl
        obtain ⟨_, ob, eo, ro⟩ := st6.hk.own _ (List.mem_of_getElem? hix)
        obtain ⟨kvs, rfl, ro⟩ := ro.dK_inv
        have hlen := hacc i hil
        refine ⟨kvs, q, rq.key_inv, eo, by rw [Rpk.len ro]; omega, G5, ?_, ((le.trans s4.le).trans s5.le).trans s6.le⟩
        have s7 := st6.hk.write (w' := .dK (acc (i + 1))) (o' := .dK (putK kvs q v)) hix (by rw [ea]; exact ro.put rv) (fun c z e => by
          have eo' : H5 D = some (.dK kvs) := eo
          rw [eo'] at e
          cases e)
        have e6 : (W1 ++ [(D, AO.dK (acc i))]).set W1.length (D, .dK (acc (i + 1))) = W1 ++ [(D, .dK (acc (i + 1)))] := by
          rw [List.set_append_right _ _ (Nat.le_refl _), Nat.sub_self]
          rfl
        rw [e6] at s7
        exact st6.trans s7
      | false =>
        rw [if_neg Bool.false_ne_true]
        rw [h2 rfl]
        exact ⟨G3, st4, le.trans s4.le⟩
    · have e : i = ds.length := by omega
      subst e
      exact .inl ⟨w2 (Nat.le_refl _), k D G' H' hD0 (st.perm (List.Perm.refl _) List.perm_append_comm)⟩
end
end Sh
set_option Elab.async false
set_option linter.all false
set_option maxRecDepth 100000
set_option maxHeartbeats 1000000
set_option autoImplicit false
/-! ShN: x += e. -/
namespace Sh
open PySem PySem.Spec PyProof.Rows L2
section
variable {F : CF} {Γ : Ga} {W W1 W2 W3 : OW} {pos p : Pos} {a b c e : Expr} {d d1 d2 d3 : D} {o : Out} {A : AE}
/-- x += e, ints -/
theorem s1_augI (i : Nat) {x : Str} {pos' : Pos} {m n : Int} (hi : F.N[i]? = some x) (hx : LocS F.sc x) (hΓ : Γ[i]? = some (some (.int m))) (h : EV F e Γ W (.ok (.int n)) W1) (hA : A.nx (Γ.set i (some (.int (m + n)))) W1) : S1 F (.AugAssign (.Name x pos') .Add e pos) Γ W A :=
  fun G H σ De sl hk k => ⟨tAug i (cE F e) (ipI fun i j => i + j), fun X hX => ps_aug hX.nd (by rw [hX.N]; exact hi) (hX.loc hx) (cE_pe hX.toSat) ip_add (.inl (hX.fn x)), by
    obtain ⟨v, e1, r⟩ := sl.2 i _ hΓ
    refine ⟨v, e1, h G H σ _ sl hk fun w G1 H1 s1 r1 => ⟨m, n, r.int_inv, r1.int_inv, ?_⟩⟩
    exact k.nx _ W1 G1 H1 _ hA s1 ((sl.mono s1.le).put i (.int _))⟩
/-- xs += e, xs owned -/
theorem s1_augL (i j : Nat) {x : Str} {pos' : Pos} {q : Addr} {xs ys : List D} (hi : F.N[i]? = some x) (hx : LocS F.sc x) (hΓ : Γ[i]? = some (some (.ptr q))) (h : EV F e Γ W (.ok d) W1) (hj : W1[j]? = some (q, .lst xs)) (hd : AsL W1 d ys) (hz : xs.length + ys.length ≤ sizeLine)
    (hA : A.nx (Γ.set i (some (.ptr q))) (W1.set j (q, .lst (xs ++ ys)))) : S1 F (.AugAssign (.Name x pos') .Add e pos) Γ W A :=
  fun G H σ De sl hk k => ⟨tAug i (cE F e) rExt2, fun X hX => ps_aug hX.nd (by rw [hX.N]; exact hi) (hX.loc hx) (cE_pe hX.toSat) iop_ext (.inl (hX.fn x)), by
    obtain ⟨v, e1, r⟩ := sl.2 i _ hΓ
    obtain rfl := r.ptr_inv
    refine ⟨_, e1, h G H σ _ sl hk fun w G1 H1 s1 r1 => ?_⟩
    obtain ⟨a, vs, rfl, e2, q2⟩ := hd.at s1.hk r1
    obtain ⟨_, ob, eo, ro⟩ := s1.hk.own _ (List.mem_of_getElem? hj)
    obtain ⟨us, rfl, ro⟩ := ro.lst_inv
    refine ⟨q, a, us, vs, rfl, rfl, eo, e2, by rw [ro.1, q2.1]; exact hz, ?_⟩
    exact k.nx _ _ G1 _ _ hA (s1.trans (s1.hk.write hj (ro.append q2) fun c z e' => by
      have eo' : H1 q = some (.lst us) := eo
      rw [eo'] at e'
      cases e')) ((sl.mono s1.le).put i (.ptr q))⟩
/-- xs += [..] and the like: a new list -/
theorem s1_augN (i j : Nat) {x : Str} {pos' : Pos} {q : Addr} {xs ys : List D} (hi : F.N[i]? = some x) (hx : LocS F.sc x) (hΓ : Γ[i]? = some (some (.ptr q))) (h : EN F e Γ W ys W1) (hj : W1[j]? = some (q, .lst xs)) (hz : xs.length + ys.length ≤ sizeLine)
    (hA : A.nx (Γ.set i (some (.ptr q))) (W1.set j (q, .lst (xs ++ ys)))) : S1 F (.AugAssign (.Name x pos') .Add e pos) Γ W A :=
  s1_augL i j hi hx hΓ h.ev hj .lst hz hA
/-- a text of the module -/
theorem ev_globS {x z : Str} {t : Tok} (hg : GlS F x) (hm : F.mg x = some (.str z t)) (hdb : (x == ("__debug__" : Str)) = false := by decide) : EV F (.Name x pos) Γ W (.ok (.str z)) W :=
  ev_glob (v := .str z) hg hm ⟨t, rfl⟩ (fun _ => .str z) hdb
theorem ET.to {r r' : Bool} (h : ET F e Γ W (.ok r) W1) (q : r = r') : ET F e Γ W (.ok r') W1 := q ▸ h
theorem EV.to (h : EV F e Γ W (.ok d) W1) (q : d = d1) : EV F e Γ W (.ok d1) W1 := q ▸ h
theorem EN.to {ds ds' : List D} (h : EN F e Γ W ds W1) (q : ds = ds') : EN F e Γ W ds' W1 := q ▸ h
end
end Sh
set_option Elab.async false
set_option linter.all false
set_option maxRecDepth 100000
set_option maxHeartbeats 2000000
set_option autoImplicit false
/-! ShP: lambdas handed to a def that calls them. -/
namespace Sh
open PySem PySem.Spec PyProof.Rows L2 LamX

/-- a lambda's code object stands at c, the table at P has grown -/
structure LGrow (T : List (Addr × Str)) (P : Addr) (q : Str) (c : Addr) (H H1 : Hp) : Prop where
  mem : (P, q) ∈ T
  keep : ∀ b o, H b = some o → b ≠ P → H1 b = some o
  tab : ∃ ps, H1 P = some (.tbl ps) ∧ TriplesOk ps.toList
  was : ∃ ps, H P = some (.tbl ps)
  tabs : Tabs T H1
  code : H1 c = some (CodeO c q)
  new : H c = none ∨ ∃ ps pos, H P = some (.tbl ps) ∧ codeAmong pos ps.toList = some (.ref c)
  one : ∀ p ∈ T, p.1 = P → p.2 = q
  grown : ∀ ps1, H1 P = some (.tbl ps1) → ∀ pos cv, codeAmong pos ps1.toList = some cv → cv = .ref c ∨ ∃ ps, H P = some (.tbl ps) ∧ codeAmong pos ps.toList = some cv
theorem LGrow.step {K : PySem.W.Frag} {T : Tb} {G H H1 : Hp} {W : OW} {P c : Addr} {q : Str} (h : Hk K T G W H) (g : LGrow T.l P q c H H1) : Step K T G W H (upd G c (CodeO c q)) W H1 := by
  obtain ⟨ps0, w0⟩ := g.was
  have nP : ∀ a o, H a = some o → (∀ qs, o ≠ .tbl qs) → a ≠ P := fun a o e n z => by
    rw [z, w0] at e
    exact n ps0 (Option.some.inj e).symm
  have gc : H c = none ∨ G c = some (CodeO c q) := by
    rcases g.new with n | ⟨ps, pos, e1, e2⟩
    · exact .inl n
    · obtain ⟨c', e3, e4⟩ := h.tab.2.2 _ g.mem ps e1 pos _ e2
      cases e3
      exact .inr e4
  have le : Le G (upd G c (CodeO c q)) := fun b o e => by
    by_cases hb : b = c
    · subst hb
      rcases gc with n | n
      · rw [h.gn n] at e; cases e
      · rw [n] at e; cases e; exact upd_same
    · rw [upd_ne hb]; exact e
  have nW : c ∉ W.map (·.1) := fun z => by
    obtain ⟨p, hp, e⟩ := List.mem_map.mp z
    obtain ⟨h1, o, h2, _⟩ := h.own p hp
    rw [e] at h1 h2
    rcases gc with n | n
    · rw [n] at h2; cases h2
    · rw [n] at h1; cases h1
  refine ⟨le, fun a o e => ?_, fun _ q => .inl q, fun a o e _ n => g.keep a o e (nP a o e n), fun a o e => ?_, fun a o e => ?_, fun a ps e => ?_, h.nod, fun p hp => ?_, fun P' hP' => ?_, g.tabs, fun p hp ps e pos cv hc => ?_⟩
  · by_cases ha : a = c
    · subst ha
      rcases gc with n | n
      · exact .inr (.inl n)
      · rw [upd_same] at e; cases e; exact .inl n
    · rw [upd_ne ha] at e; exact .inl e
  · by_cases ha : a = P
    · obtain ⟨ps, e2, _⟩ := g.tab
      exact ⟨_, by rw [ha]; exact e2⟩
    · exact ⟨o, g.keep a o e ha⟩
  · by_cases ha : a = c
    · subst ha
      rw [upd_same] at e; cases e; exact g.code
    · rw [upd_ne ha] at e
      exact g.keep a o (h.sub a o e) (nP a o (h.sub a o e) fun qs z => h.ntb a qs (by rw [e, z]))
  · by_cases ha : a = c
    · subst ha
      rw [upd_same] at e; exact codeO_ne _ (Option.some.inj e)
    · rw [upd_ne ha] at e; exact h.ntb a ps e
  · obtain ⟨h1, o, h2, h3⟩ := h.own p hp
    have np : p.1 ≠ c := fun z => nW (z ▸ List.mem_map_of_mem hp)
    exact ⟨by rw [upd_ne np]; exact h1, o, g.keep _ o h2 (nP _ o h2 h3.ntb), h3.mono le⟩
  · by_cases ha : P' = P
    · obtain ⟨ps, e2, t2⟩ := g.tab
      exact ⟨ps, by rw [ha]; exact e2, t2⟩
    · obtain ⟨qs, h1, h2⟩ := h.tab.1 P' hP'
      exact ⟨qs, g.keep _ _ h1 ha, h2⟩
  · by_cases ha : p.1 = P
    · rw [ha] at e
      rcases g.grown ps e pos cv hc with z | ⟨ps2, z1, z2⟩
      · exact ⟨c, z, by rw [g.one p hp ha]; exact upd_same⟩
      · rw [← ha] at z1
        obtain ⟨c2, e1, e2⟩ := h.tab.2.2 p hp ps2 z1 pos cv z2
        exact ⟨c2, e1, le _ _ e2⟩
    · obtain ⟨ps2, e2, _⟩ := h.tab.2.1 p hp
      have e3 := g.keep _ _ e2 ha
      rw [e] at e3
      cases e3
      obtain ⟨c2, e1, e4⟩ := h.tab.2.2 p hp ps e2 pos cv hc
      exact ⟨c2, e1, le _ _ e4⟩
section
variable {X : Cx} {pins : List (Addr × Obj)} {σ : L2.St} {H : Hp} {s : Shared}
theorem lam_mk {T : List (Addr × Str)} {c P : Addr} {params : Arguments} {body : Expr} {scope : Scope} {pos : Pos} {E : Value → Shared → Prop} {Q : Value → Shared → Prop} (I : Inv X pins σ H s) (TB : LamX.TabB X.base X.mg c P) (hcode : X.env.code = .ref c)
    (hm : (P, X.env.qual ++ "<lambda>") ∈ T) (hu : ∀ p ∈ T, p.1 = P → p.2 = X.env.qual ++ "<lambda>") (hT : Tabs T H) (hdef : defaultsOf params X.env = ([], [])) (hfree : ∀ y ∈ scope.names, y.2 = .free → ∃ c, X.env.cells.lookup y.1 = some c)
    (h : ∀ (f c' : Addr) (pm ctv : Value) (H1 : Hp) (s' : Shared), Inv X pins σ H1 s' → LGrow T P (X.env.qual ++ "<lambda>") c' H H1 → s.heap.objs.size ≤ f →
      s'.heap.get? f = some (PySem.W.kla_obj "<lambda>" (X.env.qual ++ "<lambda>") params body scope (cloFrom X.env.cells scope.names []) pm c' ctv) → H1 f = none → f ∉ frs X.stack → Q (.ref f) s') :
    wpAny (model X.prog X.w) X.A (eval (.Lambda params body scope pos) X.env) Q E s := by
  obtain ⟨ps, hP, ht, ha⟩ := hT _ hm
  refine PySem.W.kla_eval hdef ?_
  have bP : s.heap.BuiltinsAt X.mg P := TB.bm.keeps I.bk
  have hP' : s.heap.get? P = some { cls := .none, data := .fields ps } := I.hok P _ hP
  have nofr : ∀ f, s.heap.objs.size ≤ f → f ∉ frs X.stack := fun f hf z => by
    rcases List.mem_cons.mp (I.stkSub _ z) with e | e
    · have h1 := I.lt
      rw [← e] at h1
      exact Nat.lt_irrefl _ (Nat.lt_of_lt_of_le h1 hf)
    · exact I.nofs hf e
  cases hc : codeAmong pos ps.toList with
  | none =>
    refine PySem.W.kla_makeFunction (mg := X.mg) (c := c) (P := P) (ps := ps) (closure_ok hfree) I.ok.glob (I.mod.glob.keeps I.bk) hcode (TB.code.keeps I.bk) hP' ht hc TB.gP bP fun c' ctv h' tk hx hge hlt hrec htb => ?_
    obtain ⟨c2, oc, vs, t, e2, hoc, hd, hv⟩ := hrec
    cases e2
    have hsz : s.heap.objs.size ≤ h'.objs.size := Nat.le_trans hge (Nat.le_of_lt hlt)
    have nC : H c' = none := I.hok.fresh hge
    have I1 := inv_table (t' := tk) (more := #[rawInt pos.line, rawInt pos.col, .ref c']) (h' := h'.push (PySem.W.kla_obj "<lambda>" (X.env.qual ++ "<lambda>") params body scope (cloFrom X.env.cells scope.names []) ((X.mg "__name__").getD .none) c' ctv)) I hP
      (fun b o hb e => Heap.get?_push_of_some _ (hx b o hb e)) (Heap.get?_push_of_some _ htb) hge ⟨oc, vs, t, Heap.get?_push_of_some _ hoc, hd, hv⟩
    have hE : ∀ b o, H b = some o → b ≠ P → upd (upd H P (.tbl (ps ++ #[rawInt pos.line, rawInt pos.col, .ref c']))) c' (CodeO c' (X.env.qual ++ "<lambda>")) b = some o := fun b o e n => by
      rw [upd_ne (ne_of_none e nC), upd_ne n]
      exact e
    have nPo : ∀ b o, H b = some o → (∀ qs, o ≠ .tbl qs) → b ≠ P := fun b o e n z => by
      rw [z, hP] at e
      exact n ps (Option.some.inj e).symm
    have eL : (ps ++ #[rawInt pos.line, rawInt pos.col, .ref c']).toList = ps.toList ++ [rawInt pos.line, rawInt pos.col, .ref c'] := by simp
    have tn : TriplesOk (ps ++ #[rawInt pos.line, rawInt pos.col, .ref c']).toList := by rw [eL]; exact PySem.TriplesOk_snoc _ _ _ _ ht
    refine h h'.objs.size c' ((X.mg "__name__").getD .none) ctv _ _ I1 ⟨hm, hE, ⟨_, by rw [upd_ne (ne_of_none hP nC), upd_same], tn⟩, ⟨ps, hP⟩, fun p hp => ?_, upd_same, .inl nC, hu, fun ps1 e p' cv hcv => ?_⟩ hsz (Heap.get?_push_size _ rfl) ?_ (nofr _ hsz)
    · by_cases hb : p.1 = P
      · rw [hu p hp hb, hb]
        refine ⟨_, by rw [upd_ne (ne_of_none hP nC), upd_same], tn, fun p' cv hcv => ?_⟩
        rw [eL] at hcv
        rcases among_app _ ht hcv with z | z
        · obtain ⟨c0, e1, e2⟩ := ha p' cv z
          exact ⟨c0, e1, hE _ _ e2 (nPo _ _ e2 codeO_ne)⟩
        · exact ⟨c', z, upd_same⟩
      · obtain ⟨ps', a1, a2, a3⟩ := hT p hp
        refine ⟨ps', hE _ _ a1 hb, a2, fun p' cv hcv => ?_⟩
        obtain ⟨c0, e1, e2⟩ := a3 p' cv hcv
        exact ⟨c0, e1, hE _ _ e2 (nPo _ _ e2 codeO_ne)⟩
    · rw [upd_ne (ne_of_none hP nC), upd_same] at e
      cases e
      rw [eL] at hcv
      rcases among_app _ ht hcv with z | z
      · exact .inr ⟨ps, hP, z⟩
      · exact .inl z
    · have n1 : h'.objs.size ≠ c' := Nat.ne_of_gt hlt
      have n2 : h'.objs.size ≠ P := Nat.ne_of_gt (Nat.lt_of_lt_of_le (Heap.lt_size hP') hsz)
      rw [upd_ne n1, upd_ne n2]
      exact I.hok.fresh hsz
  | some cv =>
    obtain ⟨c', e, hco⟩ := ha pos cv hc
    subst e
    refine PySem.W.kla_makeFunctionHit (mg := X.mg) (c := c) (P := P) (ps := ps) (closure_ok hfree) I.ok.glob (I.mod.glob.keeps I.bk) hcode (TB.code.keeps I.bk) hP' ht hc bP fun ctv h' tk hx hsz => ?_
    have I1 : Inv X pins σ H { s with heap := h'.push (PySem.W.kla_obj "<lambda>" (X.env.qual ++ "<lambda>") params body scope (cloFrom X.env.cells scope.names []) ((X.mg "__name__").getD .none) c' ctv), toks := tk } := I.kept fun b o e => Heap.get?_push_of_some _ (hx b o e)
    exact h h'.objs.size c' ((X.mg "__name__").getD .none) ctv H _ I1 ⟨hm, fun _ _ e _ => e, ⟨ps, hP, ht⟩, ⟨ps, hP⟩, hT, hco, .inr ⟨ps, pos, hP, hc⟩, hu, fun ps1 e p' cv hcv => .inr ⟨ps1, e, hcv⟩⟩ hsz (Heap.get?_push_size _ rfl) (I.hok.fresh hsz) (nofr _ hsz)
end

/-- within a lambda's body -/
abbrev CF.lam (F : CF) (scope : Scope) (cd : Value) (E : XK) : CF := { F with sc := scope, cd := cd, k := F.k - 2, E := E, q := F.q ++ "<lambda>" ++ ".<locals>.", cl := none }
/-- a lambda without parameters, all its names captured or global -/
structure LamB (sc scope : Scope) (params : Arguments) (body : Expr) : Prop where
  sc : LamS sc scope
  defs : ∀ env, defaultsOf params env = ([], [])
  bind : ∀ (q : Str) (cl : List (Str × Addr)) (pm cv ctv : Value), bindArgs (PySem.W.kla_fn "<lambda>" q params body scope cl pm cv ctv) ⟨[], []⟩ = pure []
/-- what the making of lambdas asks of the def: its code object's table -/
structure LTab (F : CF) : Prop where
  ex : ∃ c P, F.cd = .ref c ∧ LamX.TabB F.base F.mg c P ∧ (P, F.q ++ "<lambda>") ∈ F.T.l ∧ ∀ p ∈ F.T.l, p.1 = P → p.2 = F.q ++ "<lambda>"
/-- x: try: return a() / except e: return ret, the error class at CS -/
structure Told (P : Program) (w : World) (K : PySem.W.Frag) (mg : Str → Option Value) (x : Str) (CS : Addr) (ret : Str) : Prop where
  ex : ∃ (g : Addr) (a e : Str) (pg : Arguments) (bg : List Stmt) (sg : Scope) (dV kV doc pm cdv ct oc : Value) (an od : Option Addr) (osl : Array (Option Value)) (Ng : List Str) (j : Nat) (p1 p2 p3 p4 p5 p6 p7 p8 : Pos), mg x = some (.ref g) ∧ PySem.W.keepIn K (.ref g) = true ∧
    K.lookup g = some ⟨oc, od, .func (PySem.W.fnOf x x pg bg sg dV kV doc pm an cdv ct), osl⟩ ∧ PySem.W.codeIn K cdv x = true ∧ L2.Binds K (PySem.W.fnOf x x pg bg sg dV kV doc pm an cdv ct) [a] [] ∧ FnScope Ng [a] sg ∧ Ng[0]? = some a ∧ Vis sg a ∧
    bg = [.Try [.Return (some (.Call (.Name a p1) [] [] p2)) p3] [.ExceptHandler (some (.Name e p4)) none [.Return (some (.Constant (.str ret) j p5)) p6] p7] [] [] p8] ∧ sg.names.lookup e = some .globalImplicit ∧ mg e = some (.ref CS) ∧ (e == ("__debug__" : Str)) = false ∧
    (a == ("__debug__" : Str)) = false ∧ (a == ("__classdict__" : Str)) = false ∧ ∀ f : Addr, (L2.start Ng [V.ref f])[0]? = some (some (V.ref f))
/-- what told gives -/
def toldOut (K : PySem.W.Frag) (CS : Addr) (ret : Str) : Out → D → Prop
  | .ok d, d' => d' = d
  | .er c, d' => d' = .str ret ∧ PySem.W.exmOne K (.ref c) (.ref CS) = some true
section
variable {F : CF} {Γ : Ga} {W W1 : OW} {pos p lpos : Pos} {o : Out} {d : D}
theorem lam_sat {X : Cx} {A : Around} {outer : List Env} {s : Shared} {H : Hp} {E : XK} {scope : Scope} {f c' : Addr} (hX : Sat F X) (hr : Room (F.k - 2) (A.deeper (lamEnv X scope s.heap.objs.size f c'))) : Sat (F.lam scope (.ref c') E) (lamCx X A outer s H E scope f c') :=
  ⟨hX.P, hX.w, hX.K, hX.mg, hX.base, hX.N, rfl, rfl, hr, rfl, passes_call (X := lamCx X A outer s H E scope f c') (takes_of rfl rfl rfl rfl) (fun cls d σ H h => h), by show X.env.qual ++ _ ++ _ = _; rw [hX.qual], (fun _ e => nomatch e), fun _ e => nomatch e⟩
theorem ev_told {x : Str} {CS : Addr} {ret : Str} {params : Arguments} {body : Expr} {scope : Scope} (T : Told F.P F.w F.K F.mg x CS ret) (lt : LTab F) (lb : LamB F.sc scope params body) (hg : GlS F x) (hk2 : 2 ≤ F.k) (h : ∀ cd E, EV (F.lam scope cd E) body Γ W o W1) (ho : toldOut F.K CS ret o d)
    (hdb : (x == ("__debug__" : Str)) = false := by decide) : EV F (.Call (.Name x p) [.Lambda params body scope lpos] [] pos) Γ W (.ok d) W1 :=
  fun G H σ Q sl hk k => ⟨fun σ H Q => Slots F.K G Γ σ ∧ Hk F.K F.T G W H ∧ Kont F G W H (.ok d) W1 Q, fun X hX => ⟨fun pins s σ H Q I ⟨sl, hk, k⟩ => by
    obtain ⟨g, a, e, pg, bg, sg, dV, kV, doc, pm, cdv, ct, oc, an, od, osl, Ng, j, p1, p2, p3, p4, p5, p6, p7, p8, t1, t2, t3, t4, t5, t6, t7, t8, t9, t10, t11, t12, t13, t14, t15⟩ := T.ex
    obtain ⟨c, P, l1, l2, l3, l4⟩ := lt.ex
    subst t9
    have hr := hX.room
    rw [← hX.K] at t2 t3 t4 t5
    rw [← hX.mg] at t1 t11
    rw [← hX.base, ← hX.mg] at l2
    rw [← hX.qual] at l3 l4
    have L : LamS X.env.scope scope := by rw [hX.sc]; exact lb.sc
    refine wpAny_Call_Name_kw (ld_glob I (hX.gl hg) t1 ?_ hdb)
    refine PySem.W.callWith_K (h₀ := X.base) I.ok.mod.kin t2 ?_ (by rfl) (by rfl)
    show wpAny _ _ (spliced ((false, eval (.Lambda params body scope lpos) X.env) :: backTo pos (starEach [] X.env))) _ _ s
    refine Calls.spliced_cons (lam_mk I l2 (hX.cd.trans l1) l3 l4 hk.tab.2.1 (lb.defs _) (L.has I.ok) fun f c' pm' ctv H1 s' I1 gr hsz hf hfn hfr => ?_)
    refine Calls.spliced_nil ⟨I1.kIn, ?_⟩
    have st := gr.step hk
    have rc : codeAny (model X.prog X.w) X.A (.call (.ref g) ⟨[.ref f], []⟩) (CR C8.CX0 X.stack X.prog X.w H1 s' Q C8.E0) s' := by
      refine run_ofS (k := F.k - 1) (N := Ng) (ps := [a]) (us := [.ref f]) (vs := [.ref f]) t3 t4 t6 (hr.mono (by omega)) I1.env0 (t5 s' [.ref f] I1.kIn rfl) (.cons rfl .nil) rfl fun hr' => ?_
      have hr2 : Room (F.k - 2 + 1) (X.A.deeper (envOfC x sg s'.heap.objs.size g cdv)) := hr'.mono (by omega)
      obtain ⟨t', ht', hq'⟩ := told_gives (X := X) (Ng := Ng) (x := x) (a := a) (q := X.env.qual ++ "<lambda>") (ret := ret) (sg := sg) (g := g) (cdg := cdv) (j := j) (p1 := p1) (p2 := p2) (p3 := p3) (p4 := p4) (p5 := p5) (p6 := p6) (p7 := p7) (p8 := p8) t10 t11 t12 t15 f c' s' H1 Q (fun E H' Q' => cE (F.lam scope (.ref c') E) body σ H' Q')
        (fun W pn xe E q1 q2 tk hW => pe_act (i := 0) I1 L hf hfn hfr (lb.bind _ _ _ _ _) tk hW hr2 (fun A outer s H hr3 => cE_pe (lam_sat hX hr3)) t7 t8 t13 t14) gr.code
        (h _ _ _ H1 σ Q (sl.mono st.le) st.hk (by
          cases o with
          | ok d0 =>
            obtain rfl : d = d0 := ho
            exact fun v G' H' s2 r => k v G' H' (st.trans s2) r
          | er cl =>
            obtain ⟨e1, e2⟩ := ho
            subst e1
            exact fun G' H' s2 => ⟨true, by rw [hX.K]; exact e2, fun _ => k _ G' H' (st.trans s2) (.str ret), fun z => by cases z⟩))
      exact ⟨t', ht'.nox, hq'⟩
    refine wpAny_call (codeAny_mono rc fun r s2 hq => ?_)
    cases r with
    | error e => exact (show False from hq).elim
    | ok fl =>
      cases fl with
      | ret u => exact I1.after hq
      | next => exact False.elim hq
      | brk => exact False.elim hq
      | cont => exact False.elim hq⟩, sl, hk, k⟩
end
end Sh
set_option Elab.async false
set_option linter.all false
set_option maxRecDepth 100000
set_option maxHeartbeats 2000000
set_option autoImplicit false
/-! ShQ: lists of lambdas, each told. -/
namespace Sh
open PySem PySem.Spec PyProof.Rows L2 LamX

section
variable {X : Cx} {pins : List (Addr × Obj)} {σ : L2.St} {H : Hp} {s : Shared}
/-- an object of ours that is known from now on -/
theorem Inv.adopt {a : Addr} {φ : Heap → Prop} (I : Inv X pins σ H s) (f : FpOk X pins H a) (h0 : X.s_0.heap.objs.size ≤ a) (ok : ObjOk X.prog X.w (upd H a (.ext φ)) s.heap a (.ext φ)) : Inv X pins σ (upd H a (.ext φ)) s := by
  obtain ⟨f0, f1, f2, f3, f4, f5⟩ := f
  have ne : ∀ b u, H b = some u → b ≠ a := fun b u e => ne_of_none e f0
  have ne0 : ∀ b o, X.s_0.heap.get? b = some o → b ≠ a := fun b o e => Nat.ne_of_lt (Nat.lt_of_lt_of_le (Heap.lt_size e) h0)
  refine ⟨I.ok, I.os, I.bare, ⟨I.base.keep, I.base.slot, fun b o e n hx => by rw [upd_ne (ne0 b o e)]; exact I.base.free b o e n hx, I.base.there, fun b xs e => ?_, fun b o u e => ?_, fun b ps e => ?_⟩, I.loc, I.cell, by rw [upd_ne (Ne.symm f1)]; exact I.free, fun x c e => by rw [upd_ne (f4 x c e)]; exact I.freeC x c e, fun p hp => ?_, fun b u e => ?_, I.len⟩
  · have q := I.base.tups b xs e
    rw [upd_ne (ne b _ q)]; exact q
  · have q := I.base.frzs b o u e
    rw [upd_ne (ne b _ q)]; exact q
  · obtain ⟨more, q⟩ := I.base.tbls b ps e
    exact ⟨more, by rw [upd_ne (ne b _ q)]; exact q⟩
  · obtain ⟨h1, h2, h3⟩ := I.pin p hp
    exact ⟨h1, by rw [upd_ne (f5 p hp)]; exact h2, h3⟩
  · by_cases hb : b = a
    · subst hb
      rw [upd_same] at e
      cases e
      exact ok
    · rw [upd_ne hb] at e
      exact (I.hok b u e).stay (fun _ _ _ q => q) (fun c q => by rw [upd_ne (ne c _ q)]; exact q) fun c xs q => by rw [upd_ne (ne c _ q)]; exact q

/-- the block of a list comprehension, the def's state at its beginning known -/
theorem lc_known {Q : VK} {elt tg iter : Expr} {ifs : List Expr} {scope : Scope} {own : List (Str × Nat)} {pos : Pos} {wi : TI} {g : TG} {tt : TT} {te : TE}
    (hc : X.calm = true) (hN : X.N.Nodup) (I : Inv X pins σ H s) (hi : PI X tg iter wi) (ok : BlkOk X.N X.env.scope scope own)
    (hg : ∀ (s : Shared) (H : Hp) (C : Addr) (cl : List (Str × Addr)) (fp : List Addr), PG (X.blk s H scope (compEnvC scope cl C X.env) fp) tg g)
    (ht : ∀ (s : Shared) (H : Hp) (C : Addr) (cl : List (Str × Addr)) (fp : List Addr), Inv X pins σ H s → (∀ b ∈ fp, FpOk X pins H b) → PTs (X.blk s H scope (compEnvC scope cl C X.env) fp) ifs tt)
    (he : ∀ (s : Shared) (H : Hp) (C : Addr) (cl : List (Str × Addr)) (fp : List Addr), PE (X.blk s H scope (compEnvC scope cl C X.env) fp) elt te) (hs : ∀ x, foldedSetIterable iter X.env x = pure x)
    (h : tLc wi g tt te (own.map (·.2)) σ H Q) : wpAny (model X.prog X.w) X.A (eval (.ListComp elt [⟨tg, iter, ifs, 0⟩] scope pos) X.env) (EP X pins σ Q) X.xe s := by
  rw [eval_ListComp]
  have hRR : ∀ D C s' m H', Inv X pins σ H' s' → Q (.ref D) H' → s'.heap.Ns C m → FpOk X pins H' C → compPost (model X.prog X.w) X.A X.xe none (EP X pins σ Q) (.ref D) C (.ok .next) s' := fun D C s' m H' I' q hn f => ⟨m, hn, fun h'' sb => by
    obtain ⟨f0, f1, f2, f3, f4, f5⟩ := f
    exact ⟨.ref D, H', I'.turned (t' := s'.toks) (fun b o hb e => (sb.2 b hb).trans e) f0 f1 f3 f4 f5, rfl, q⟩⟩
  have hfree : ∀ y ∈ scope.names, y.2 = .free → ∃ c, X.env.cells.lookup y.1 = some c := fun y hy e => by
    rcases ok.free y hy e with k | k
    · exact I.ok.has _ (.inl k)
    · exact I.ok.has _ (.inr k)
  refine wpAny_comprehension_free (use := none) rfl hs (closure_ok hfree) ok.kind (fun y hy e => by rw [ok.uniq y hy, e])
    (thn (hi.run pins s σ H _ I h) fun xv s1 hx => thn hx fun itv s2 h2 => ?_)
  obtain ⟨it, fp, tn, J, H2, e, I2, T, st2, f2, q⟩ := h2
  subst e
  refine wpAny_newObj_type (newEnv_comp ?_) (by show 0 ≤ sizeLine; decide)
  generalize hD : s2.heap.objs.size = D
  have hDn : H2 D = none := I2.hok.fresh (Nat.le_of_eq hD)
  obtain ⟨W, ⟨m0, w0⟩, turn⟩ := q D hDn
  generalize hs3 : ({ s2 with heap := s2.heap.push { cls := .type "list", data := .seq ([] : List Value).toArray } } : Shared) = s3
  have I3 : Inv X pins σ (upd H2 D (.lst [])) s3 := by
    rw [← hs3]
    refine I2.laid (t' := s2.toks) (fun b o e => Heap.get?_push_of_some _ e) (Nat.le_of_eq hD) ⟨Nat.zero_le _, [], 0, .nil, ?_⟩
    rw [← hD]
    exact Heap.get?_push_size _ rfl
  have h3 : s3.heap = s2.heap.push { cls := .type "list", data := .seq ([] : List Value).toArray } := by rw [← hs3]
  have sz : ∀ b ∈ fp, b < s2.heap.objs.size := fun b hb => by
    obtain ⟨o, e, _⟩ := T.obj _ _ st2 b hb
    exact Heap.lt_size e
  have f3 : ∀ b ∈ fp, FpOk X pins (upd H2 D (.lst [])) b ∧ b < s3.heap.objs.size := fun b hb => by
    have hlt := sz b hb
    refine ⟨⟨?_, (f2 b hb).2⟩, by rw [h3, Heap.size_push]; exact Nat.lt_succ_of_lt hlt⟩
    rw [upd_ne (by rw [← hD]; exact Nat.ne_of_lt hlt)]
    exact (f2 b hb).1
  have st3 : tn 0 s3.heap := T.keep _ _ _ st2 fun b _ o e => by rw [h3]; exact Heap.get?_push_of_some _ e
  have I4 := block_start I3 ok hN f3
  have pg := hg s3 (upd H2 D (.lst [])) s3.heap.objs.size (cellsFrom (s3.heap.objs.size + 1) scope.names (cloFrom X.env.cells scope.names [])) fp
  have pt := ht s3 (upd H2 D (.lst [])) s3.heap.objs.size (cellsFrom (s3.heap.objs.size + 1) scope.names (cloFrom X.env.cells scope.names [])) fp I3 fun b hb => (f3 b hb).1
  have pe := he s3 (upd H2 D (.lst [])) s3.heap.objs.size (cellsFrom (s3.heap.objs.size + 1) scope.names (cloFrom X.env.cells scope.names [])) fp
  show codeAny _ _ (.compStart (.ListComp elt [⟨tg, iter, ifs, 0⟩] scope pos) 0 (.ref it) (.ref D) (compEnvC scope (cellsFrom (s3.heap.objs.size + 1) scope.names (cloFrom X.env.cells scope.names [])) s3.heap.objs.size X.env)) (compPost (model X.prog X.w) X.A X.xe none (EP X pins σ Q) (.ref D) s3.heap.objs.size) { s3 with heap := pushCells (s3.heap.push { cls := .type "dict", data := .dict #[] }) scope.names }
  have nfp : ∀ b ∈ fp, (upd H2 D (.lst [])) b = none := fun b hb => (f3 b hb).1.1
  generalize hce : compEnvC scope (cellsFrom (s3.heap.objs.size + 1) scope.names (cloFrom X.env.cells scope.names [])) s3.heap.objs.size X.env = ce at I4 pg pt pe ⊢
  have cL : ce.locals = s3.heap.objs.size := by subst hce; rfl
  generalize hH3 : upd H2 D (.lst []) = H3 at I3 I4 pg pt pe w0 nfp f3
  generalize hs4 : ({ s3 with heap := pushCells (s3.heap.push { cls := .type "dict", data := .dict #[] }) scope.names } : Shared) = s4 at I4 ⊢
  have st4 : tn 0 s4.heap := T.keep _ _ _ st3 fun b _ o e => by rw [← hs4]; exact pushCells_keeps _ _ _ _ (Heap.get?_push_of_some _ e)
  have stat : ∀ {σ' : L2.St} {H' : Hp} {s' : Shared}, Inv (X.blk s3 H3 scope ce fp) [] σ' H' s' → (∀ b ∈ fp, H' b = none) → ∀ b ∈ fp, FpOk (X.blk s3 H3 scope ce fp) [] H' b := fun {σ' H' s'} I' hn b hb =>
    ⟨hn b hb, (I'.ok.exf b hb).1, I'.ok.exfs b hb, .inl hb, fun x c e => (I'.ok.exf b hb).2 x c e, fun p hp => absurd (show p ∈ ([] : List (Addr × Obj)) ++ [] from hp) (by simp)⟩
  have loop : codeAny (model X.prog X.w) X.A (.compLoop (.ListComp elt [⟨tg, iter, ifs, 0⟩] scope pos) 0 (.ref it) (.ref D) ce) (compPost (model X.prog X.w) X.A X.xe none (EP X pins σ Q) (.ref D) s3.heap.objs.size) s4 := by
    refine compLoop_any (fun n s' => ∃ i H', Inv (X.blk s3 H3 scope ce fp) [] (wipe σ (own.map (·.2))) H' s' ∧ tn i s'.heap ∧ (∀ b ∈ fp, H' b = none) ∧ W i n H') ?_ m0 ⟨0, H3, I4, st4, nfp, w0⟩
    rintro n s5 ⟨i, H5, I5, st5, n5, w5⟩
    rcases turn i n H5 w5 with ⟨stop, qq⟩ | ⟨go, Nx, hNx, step⟩
    · have td := T.done (X.blk s3 H3 scope ce fp) rfl rfl rfl hc i [] s5 _ H5 (fun _ _ => False) I5 (stat I5 n5) st5 stop
      refine thnF td fun r s6 ⟨hr, I6⟩ => ?_
      subst hr
      have I7 : Inv X pins σ H5 s6 := I3.call' (ch := fp) I6.os I6.base I6.hok I6.bare fun b hb => ⟨(f3 b hb).1.2.2.2.1, (f3 b hb).1.2.1, (f3 b hb).1.2.2.2.2.1, (f3 b hb).1.2.2.2.2.2⟩
      have nC : H5 s3.heap.objs.size = none := by
        have z : H5 ce.locals = none := I6.free
        rw [cL] at z
        exact z
      obtain ⟨m, hn, _⟩ := I6.loc
      have hn : s6.heap.Ns ce.locals m := hn
      rw [cL] at hn
      exact hRR D s3.heap.objs.size s6 m H5 I7 qq hn (I3.fpOk (Nat.le_refl _) nC)
    · have ti := T.item (X.blk s3 H3 scope ce fp) rfl rfl rfl hc i [] s5 _ H5 (fun _ _ => False) I5 (stat I5 n5) st5 go
      refine thnF ti fun r s6 ⟨u, hr, h6⟩ => ?_
      subst hr
      refine thnF h6 fun _ s7 ⟨x, H7, I7, r7, y7, st7, n7⟩ => ?_
      have I7' := I7.pinned (stat I7 n7) (T.obj _ _ st7)
      refine thnF (pg.run _ s7 _ H7 x u _ I7' r7 (step x H7 y7)) fun _ s8 ⟨σ8, H8, I8, hw8, q8⟩ => ?_
      refine thnF (pt.run _ s8 σ8 H8 _ I8 q8) fun b s9 ⟨H9, I9, q9⟩ => ?_
      have fin : ∀ {s' : Shared} {H' : Hp}, Inv (X.blk s3 H3 scope ce fp) ([] ++ pinsAt fp s7.heap) σ8 H' s' → Nx H' → ∃ m, m < n ∧ ∃ i H', Inv (X.blk s3 H3 scope ce fp) [] (wipe σ (own.map (·.2))) H' s' ∧ tn i s'.heap ∧ (∀ b ∈ fp, H' b = none) ∧ W i m H' := fun {s' H'} I' nx => by
        obtain ⟨m', hm, w'⟩ := hNx H' nx
        have pin' : ∀ b ∈ fp, ∀ o, s7.heap.get? b = some o → s'.heap.get? b = some o ∧ H' b = none := fun b hb o e =>
          let z := I'.pin (b, o) (List.mem_append_right _ (List.mem_append_right _ (mem_pinsAt hb e)))
          ⟨z.1, z.2.1⟩
        have hl : (wipe σ (own.map (·.2))).length = σ8.length := by rw [← hw8, wipe_length]
        refine ⟨m', hm, i + 1, H', (I'.unpinned (pins := [])).weak hl (fun j v e => ?_), T.keep _ _ _ st7 fun b hb o e => (pin' b hb o e).1, fun b hb => ?_, w'⟩
        · rw [← hw8] at e
          exact (wipe_some e).1
        · obtain ⟨o, e, _⟩ := T.obj _ _ st7 b hb
          exact (pin' b hb o e).2
      cases b with
      | false =>
        simp only [Bool.false_eq_true, if_false] at q9 ⊢
        exact fin I9 q9
      | true =>
        simp only [if_true] at q9 ⊢
        refine thnF (pe.run _ s9 σ8 H9 _ I9 q9) fun z s10 ⟨yv, H10, I10, r10, acc, hD10, hz10, nx⟩ => ?_
        exact app_ok (X := X.blk s3 H3 scope ce fp) I10 hD10 hz10 r10 fun s11 I11 => fin I11 nx
  exact codeAny_compStart_list loop (T.self X.A 0 _ _ _ st4 loop)
end

/-- a lambda's object -/
def LamO (f : Addr) (q : Str) (params : Arguments) (body : Expr) (scope : Scope) (cells : List (Str × Addr)) (pm : Value) (c : Addr) (ctv : Value) : HO := .ext fun h => h.get? f = some (PySem.W.kla_obj "<lambda>" q params body scope cells pm c ctv)
/-- what is owned at f is the lambda e, made where the cells are cl -/
def LamV (cl : List (Str × Addr)) (q : Str) (e : Expr) (f : Addr) (w : AO) : Prop := ∃ params body scope lpos pm c ctv, e = .Lambda params body scope lpos ∧ w = .lam (LamO f q params body scope (cloFrom cl scope.names []) pm c ctv) c q
section
variable {F : CF} {Γ : Ga} {W W1 : OW} {pos p lpos : Pos} {o : Out} {d : D} {e : Expr}
theorem evr_lam {P : D → OW → Prop} {params : Arguments} {body : Expr} {scope : Scope} {cl : List (Str × Addr)} (hcl : F.cl = some cl) (lt : LTab F) (lb : LamB F.sc scope params body) (hp : ∀ f w, LamV cl (F.q ++ "<lambda>") (.Lambda params body scope lpos) f w → P (.ptr f) ((f, w) :: W)) : EVR F (.Lambda params body scope lpos) Γ W P :=
  fun G H σ Q sl hk k => ⟨fun σ H Q => Slots F.K G Γ σ ∧ Hk F.K F.T G W H ∧ (∀ d W' v G' H', P d W' → Step F.K F.T G W H G' W' H' → Rp F.K G' v d → Q v H'), fun X hX => ⟨fun pins s σ H Q I ⟨sl, hk, k⟩ => by
    obtain ⟨c, P0, l1, l2, l3, l4⟩ := lt.ex
    rw [← hX.base, ← hX.mg] at l2
    rw [← hX.qual] at l3 l4
    have L : LamS X.env.scope scope := by rw [hX.sc]; exact lb.sc
    refine lam_mk I l2 (hX.cd.trans l1) l3 l4 hk.tab.2.1 (lb.defs _) (L.has I.ok) fun f c' pm' ctv H1 s' I1 gr hsz hf hfn hfr => ?_
    have st := gr.step hk
    have I2 := Inv.adopt (φ := fun h => h.get? f = some (PySem.W.kla_obj "<lambda>" (X.env.qual ++ "<lambda>") params body scope (cloFrom X.env.cells scope.names []) pm' c' ctv)) I1 (I.fpOk hsz hfn) (Nat.le_trans I.sz hsz) ⟨hf, ⟨_, hf⟩, fun h1 h2 p st => st _ p⟩
    have st2 := st.hk.allocO (p := f) (o := LamO f (X.env.qual ++ "<lambda>") params body scope (cloFrom X.env.cells scope.names []) pm' c' ctv) (w := .lam (LamO f (X.env.qual ++ "<lambda>") params body scope (cloFrom X.env.cells scope.names []) pm' c' ctv) c' (X.env.qual ++ "<lambda>")) hfn ⟨rfl, (fun ps z => by unfold LamO at z; cases z), upd_same⟩
    refine ⟨.ref f, _, I2, rfl, k _ _ _ _ _ (hp f _ ⟨params, body, scope, lpos, pm', c', ctv, rfl, ?_⟩) (st.trans st2) (.ptr f)⟩
    rw [hX.cl cl hcl, hX.qual]⟩, sl, hk, k⟩
/-- lambdas one after another: what is owned behind them -/
def LamW (cl : List (Str × Addr)) (q : Str) : List Expr → List D → OW → OW → Prop
  | [], ds, W, W' => ds = [] ∧ W' = W
  | e :: es, ds, W, W' => ∃ f w ds', LamV cl q e f w ∧ ds = .ptr f :: ds' ∧ LamW cl q es ds' ((f, w) :: W) W'
/-- a row of lambdas -/
def LamBs (sc : Scope) : List Expr → Prop
  | [] => True
  | e :: es => (∃ params body scope lpos, e = .Lambda params body scope lpos ∧ LamB sc scope params body) ∧ (∀ env, starEach (e :: es) env = (false, eval e env) :: starEach es env) ∧ LamBs sc es
theorem ear_lams {cl : List (Str × Addr)} (hcl : F.cl = some cl) (lt : LTab F) : ∀ (es : List Expr) (W : OW) (P : List D → OW → Prop), LamBs F.sc es → (∀ ds W', LamW cl (F.q ++ "<lambda>") es ds W W' → P ds W') → EAR F es Γ W P
  | [], W, P, _, hp => ear_nil (hp [] W ⟨rfl, rfl⟩)
  | e :: es, W, P, ⟨⟨params, body, scope, lpos, ee, lb⟩, hs, t⟩, hp => by
    subst ee
    exact ear_cons (evr_lam hcl lt lb fun f w hv => ear_lams hcl lt es _ _ t fun ds W' hw => hp _ _ ⟨f, w, ds, hv, rfl, hw⟩) hs
/-- a list display, its items made -/
theorem evr_lst {es : List Expr} {P : D → OW → Prop} (h : EAR F es Γ W (fun ds W' => ds.length ≤ 1000 ∧ ∀ q, P (.ptr q) ((q, .lst ds) :: W'))) : EVR F (.List es pos) Γ W P :=
  fun G H σ Q sl hk k => ⟨tLst (cA F es), fun X hX => pe_lst (cA_pa hX), h G H σ _ sl hk fun ds W1 vs G1 H1 ⟨hz, hp⟩ s1 rs => ⟨by rw [rs.1]; exact Nat.le_trans hz (by decide), fun q hq => k _ _ _ _ _ (hp q) (s1.trans (s1.hk.allocO hq rs)) (.ptr q)⟩⟩

end
/-! ### each told -/
/-- a(), a's value a lambda that is known -/
theorem act_known {X : Cx} {pins : List (Addr × Obj)} {σ : L2.St} {H : Hp} {s : Shared} {CXg : CXT} {Eg : XK} {Ng : List Str} {qg : Str} {sg : Scope} {g f c' : Addr} {cdg pm ctv : Value} {params : Arguments} {body : Expr} {scope : Scope} {k i : Nat} {a : Str} {pn : List (Addr × Obj)} {xe : Value → Shared → Prop} {W : WX} {E : XK} {tb : TE} {p1 p2 : Pos}
    (I : Inv X pins σ H s) (L : LamS X.env.scope scope)
    (hbind : bindArgs (PySem.W.kla_fn "<lambda>" (X.env.qual ++ "<lambda>") params body scope (cloFrom X.env.cells scope.names []) pm (.ref c') ctv) ⟨[], []⟩ = pure [])
    (tk : Takes ((cxOf CXg X.prog X.w X.K X.mg X.base Ng qg sg g cdg X.A X.stack s H Eg).tr pn xe) W) (hW : ∀ cls d σ' H', E cls d H' → W cls d σ' H') (hr : Room (k + 1) (X.A.deeper (envOfC qg sg s.heap.objs.size g cdg)))
    (hbody : ∀ (A : Around) (outer : List Env) (s : Shared) (H : Hp), Room k (A.deeper (lamEnv X scope s.heap.objs.size f c')) → PE (lamCx X A outer s H E scope f c') body tb)
    (hN : Ng[i]? = some a) (hv : Vis sg a) (hd : (a == ("__debug__" : Str)) = false) (hcd : (a == ("__classdict__" : Str)) = false) :
    PE ((cxOf CXg X.prog X.w X.K X.mg X.base Ng qg sg g cdg X.A X.stack s H Eg).tr pn xe) (.Call (.Name a p1) [] [] p2)
      (fun σZ HZ Q => σZ[i]? = some (some (.ref f)) ∧ HZ c' = some (CodeO c' (X.env.qual ++ "<lambda>")) ∧ HZ f = some (LamO f (X.env.qual ++ "<lambda>") params body scope (cloFrom X.env.cells scope.names []) pm c' ctv) ∧ tb σ HZ Q) := by
  refine ⟨fun pinsZ sZ σZ HZ Q IZ h => ?_⟩
  obtain ⟨hs, hc, hlo, ht⟩ := h
  refine wpAny_Call_Name_kw (thn ((pe_var (pos := p1) (i := i) hN hv hd hcd).run pinsZ sZ σZ HZ (fun v H1 => v = .ref f ∧ H1 = HZ) IZ ⟨.ref f, hs, rfl, rfl⟩) fun u s1 ⟨v, H1, I1, r1, q1⟩ => ?_)
  obtain ⟨ev, eH⟩ := q1
  subst ev
  rw [eH] at I1
  obtain rfl : u = Value.ref f := r1
  have of1 : s1.heap.get? f = some (PySem.W.kla_obj "<lambda>" (X.env.qual ++ "<lambda>") params body scope (cloFrom X.env.cells scope.names []) pm c' ctv) := (I1.hok f _ hlo).1
  refine PySem.W.callWith_F0 ⟨_, _, _, _, of1⟩ ?_
  have un : Un (frs X.stack) [] H HZ s.heap s1.heap := I1.base
  obtain ⟨⟨oc, vs, t, hoc, hdc, hvc⟩, _, _⟩ := I1.hok c' _ hc
  have rc : codeAny (model X.prog X.w) (X.A.deeper (envOfC qg sg s.heap.objs.size g cdg)) (.call (.ref f) ⟨[], []⟩) (CR (L2.CX X.prog X.w) (envOfC qg sg s.heap.objs.size g cdg :: X.stack) X.prog X.w HZ s1 Q E) s1 := by
    refine PySem.W.kla_callFunE hr.depth of1 rfl L.co L.gen rfl ⟨c', oc, vs, t, rfl, hoc, hdc, hvc⟩ ?_
    rw [hbind]
    refine wpAny_pure (wpAny_newFunctionEnv (fun y hy => (L.own y hy).2) (fun y hy => absurd hy (by simp)) (fun h₁ hns hsb => ⟨I1.nolimit.fresh _ hsb, ?_⟩) L.kind)
    show codeAny _ _ (.expr body (lamEnv X scope s1.heap.objs.size f c')) _ _
    have kp : ∀ b o, s1.heap.get? b = some o → h₁.get? b = some o := fun b o e => hsb.extBut b o (Nat.ne_of_lt (Heap.lt_size e)) (Heap.get?_push_of_some _ e)
    have J : Inv (lamCx X (X.A.deeper (envOfC qg sg s.heap.objs.size g cdg)) (envOfC qg sg s.heap.objs.size g cdg :: X.stack) s1 HZ E scope f c') [] σ HZ { s1 with heap := h₁, toks := s1.toks + ([] : List (Str × Value)).length } :=
      lam_start2 I L I1.env0 hr.hd un hns kp
    refine PySem.W.kla_codeExpr (wpAny_mono ((hbody _ _ s1 HZ (hr.deeper _)).run [] _ _ HZ Q J ht) (fun v s' hq => ?_) fun e s' hq => hq)
    obtain ⟨w', H', J', rv, q⟩ := hq
    exact ⟨w', H', J'.os, J'.bare, J'.base, J'.hok, rv, q⟩
  have hx : Passes (L2.CX X.prog X.w) ((cxOf CXg X.prog X.w X.K X.mg X.base Ng qg sg g cdg X.A X.stack s H Eg).tr pn xe) E := passes_call tk hW
  refine wpAny_call (codeAny_mono rc fun r s' hq => ?_)
  cases r with
  | error e => exact hx pinsZ σZ HZ s1 e s' I1 hq
  | ok fl =>
    cases fl with
    | ret u => exact I1.after hq
    | next => exact False.elim hq
    | brk => exact False.elim hq
    | cont => exact False.elim hq
/-- a lambda whose telling is known -/
structure BadL (F : CF) (CS : Addr) (Γ : Ga) (W : OW) (e : Expr) : Prop where
  ex : ∃ pa bd sc lp, e = .Lambda pa bd sc lp ∧ LamB F.sc sc pa bd ∧ ∃ c, PySem.W.exmOne F.K (.ref c) (.ref CS) = some true ∧ ∀ cd E, EV (F.lam sc cd E) bd Γ W (.er c) W
section
variable {F : CF} {Γ : Ga} {W W1 : OW}
/-- told(f), in a comprehension's block: f a lambda that the def made -/
theorem bad_pe {X : Cx} {pins : List (Addr × Obj)} {σ : L2.St} {H0 : Hp} {s0 : Shared} {scope : Scope} {C : Addr} {cl : List (Str × Addr)} {fp : List Addr} {x y : Str} {j : Nat} {CS : Addr} {ret : Str} {p1 p2 p3 : Pos} (hX : Sat F X) (T : Told F.P F.w F.K F.mg x CS ret) (hk2 : 2 ≤ F.k) (hgx : (relS scope F.sc).names.lookup x = some .globalImplicit)
    (hj : F.N[j]? = some y) (hy : VisS (relS scope F.sc) y) (hd : (y == ("__debug__" : Str)) = false) (hcd : (y == ("__classdict__" : Str)) = false) (hdb : (x == ("__debug__" : Str)) = false) (I0 : Inv X pins σ H0 s0) (f0 : ∀ b ∈ fp, FpOk X pins H0 b) :
    PE (X.blk s0 H0 scope (compEnvC scope cl C X.env) fp) (.Call (.Name x p1) [.Name y p2] [] p3)
      (fun σ1 H1 Q => ∃ (f : Addr) (G : Hp) (e : Expr) (w : AO), σ1[j]? = some (some (.ref f)) ∧ Slots F.K G Γ σ ∧ Hk F.K F.T G W H1 ∧ (f, w) ∈ W ∧ LamV X.env.cells (F.q ++ "<lambda>") e f w ∧ BadL F CS Γ W e ∧ ∀ G' H', Step F.K F.T G W H1 G' W H' → Q (.str ret) H') := by
  refine ⟨fun pins' s1 σ1 H1 Q IY ⟨f, G, e, w, hs, sl, hk, hw, hv, bl, k⟩ => ?_⟩
  obtain ⟨params, body, lsc, lpos, pm', c', ctv, e1, e2⟩ := hv
  obtain ⟨pa, bd, sc, lp, e3, lb, c, ex, hbd⟩ := bl.ex
  rw [e1] at e3
  injection e3 with z1 z2 z3 z4
  subst z1 z2 z3 z4 e2
  obtain ⟨gf, ob, ho, hro⟩ := hk.own _ hw
  obtain ⟨rfl, gc⟩ := hro.lam_inv
  have hco : H1 c' = some (CodeO c' (F.q ++ "<lambda>")) := hk.sub _ _ gc
  obtain ⟨g, a, er, pg, bg, sg, dV, kV, doc, pm, cdv, ct, oc, an, od, osl, Ng, jj, q1, q2, q3, q4, q5, q6, q7, q8, t1, t2, t3, t4, t5, t6, t7, t8, t9, t10, t11, t12, t13, t14, t15⟩ := T.ex
  subst t9
  have hr := hX.room
  rw [← hX.K] at t2 t3 t4 t5
  rw [← hX.mg] at t1 t11
  have L : LamS X.env.scope lsc := by rw [hX.sc]; exact lb.sc
  have hgl : Gl (X.blk s0 H0 scope (compEnvC scope cl C X.env) fp) x := by
    show (relS scope X.env.scope).names.lookup x = _
    rw [hX.sc]; exact hgx
  have hvis : Vis (relS scope X.env.scope) y := by rw [hX.sc]; exact hy
  refine wpAny_Call_Name_kw (ld_glob IY hgl t1 ?_ hdb)
  refine PySem.W.callWith_K (h₀ := X.base) I0.ok.mod.kin t2 ?_ (by rfl) (by rfl)
  show wpAny _ _ (spliced ((false, eval (.Name y p2) (compEnvC scope cl C X.env)) :: backTo p3 (starEach [] (compEnvC scope cl C X.env)))) _ _ s1
  refine Calls.spliced_cons (thn ((pe_var (X := X.blk s0 H0 scope (compEnvC scope cl C X.env) fp) (pos := p2) (i := j) (by show X.N[j]? = _; rw [hX.N]; exact hj) hvis hd hcd).run pins' s1 σ1 H1 (fun v H2 => v = .ref f ∧ H2 = H1) IY ⟨.ref f, hs, rfl, rfl⟩) fun u s2 ⟨v, H2, I2, r2, ev, eH⟩ => ?_)
  subst ev
  subst eH
  obtain rfl : u = Value.ref f := r2
  refine Calls.spliced_nil ⟨I2.kIn, ?_⟩
  have IX : Inv X pins σ H2 s2 := I0.call' (ch := fp) I2.os I2.base I2.hok I2.bare fun b hb => ⟨(f0 b hb).2.2.2.1, (f0 b hb).2.1, (f0 b hb).2.2.2.2.1, (f0 b hb).2.2.2.2.2⟩
  have eq : F.q ++ "<lambda>" = X.env.qual ++ "<lambda>" := by rw [hX.qual]
  rw [eq] at hco ho
  have rc : codeAny (model X.prog X.w) X.A (.call (.ref g) ⟨[.ref f], []⟩) (CR C8.CX0 X.stack X.prog X.w H2 s2 Q C8.E0) s2 := by
    refine run_ofS (k := F.k - 1) (N := Ng) (ps := [a]) (us := [.ref f]) (vs := [.ref f]) t3 t4 t6 (hr.mono (by omega)) IX.env0 (t5 s2 [.ref f] IX.kIn rfl) (.cons rfl .nil) rfl fun hr' => ?_
    have hr2 : Room (F.k - 2 + 1) (X.A.deeper (envOfC x sg s2.heap.objs.size g cdv)) := hr'.mono (by omega)
    obtain ⟨t', ht', hq'⟩ := told_gives (X := X) (Ng := Ng) (x := x) (a := a) (q := X.env.qual ++ "<lambda>") (ret := ret) (sg := sg) (g := g) (cdg := cdv) (j := jj) (p1 := q1) (p2 := q2) (p3 := q3) (p4 := q4) (p5 := q5) (p6 := q6) (p7 := q7) (p8 := q8) t10 t11 t12 t15 f c' s2 H2 Q
      (fun E H' Q' => H' f = some (LamO f (X.env.qual ++ "<lambda>") params body lsc (cloFrom X.env.cells lsc.names []) pm' c' ctv) ∧ cE (F.lam lsc (.ref c') E) body σ H' Q')
      (fun W pn xe E r1 r2 tk hW => act_known (i := 0) IX L (lb.bind _ _ _ _ _) tk hW hr2 (fun A outer s H hr3 => cE_pe (lam_sat hX hr3)) t7 t8 t13 t14) hco
      ⟨ho, hbd _ _ G H2 σ Q sl hk fun G' H' s3 => ⟨true, by rw [hX.K]; exact ex, fun _ => k G' H' s3, fun z => by cases z⟩⟩
    exact ⟨t', ht'.nox, hq'⟩
  refine wpAny_call (codeAny_mono rc fun r s3 hq => ?_)
  cases r with
  | error e => exact (show False from hq).elim
  | ok fl =>
    cases fl with
    | ret u => exact I2.after hq
    | next => exact False.elim hq
    | brk => exact False.elim hq
    | cont => exact False.elim hq

theorem en_bad {x y bl : Str} {jb j ib jn j1 : Nat} {b CS : Addr} {ret : Str} {ds : List D} {cl : List (Str × Addr)} {scope : Scope} {pos p0 p1 p2 p3 p4 p5 p6 p7 : Pos} (T : Told F.P F.w F.K F.mg x CS ret) (hk2 : 2 ≤ F.k) (hcl : F.cl = some cl) (hN : F.N.Nodup) (ok : blkC F.N F.sc scope [(y, j)] = true)
    (hjb : F.N[jb]? = some bl) (hvb : VisS F.sc bl) (hΓ : Γ[jb]? = some (some (.ptr b))) (hW : W[ib]? = some (b, .lst ds)) (hz : ds.length < sizeLine) (hds : ∀ (i : Nat) (d : D), ds[i]? = some d → ∃ (f : Addr) (e : Expr) (w : AO), d = D.ptr f ∧ (f, w) ∈ W ∧ LamV cl (F.q ++ "<lambda>") e f w ∧ BadL F CS Γ W e)
    (hgx : (relS scope F.sc).names.lookup x = some .globalImplicit) (hj : F.N[j]? = some y) (hyl : (relS scope F.sc).names.lookup y = some .local) (hd : (y == ("__debug__" : Str)) = false := by decide) (hcd : (y == ("__classdict__" : Str)) = false := by decide) (hdb : (x == ("__debug__" : Str)) = false := by decide)
    (hd2 : (bl == ("__debug__" : Str)) = false := by decide) (hcd2 : (bl == ("__classdict__" : Str)) = false := by decide) :
    EN F (.ListComp (.Constant (.int 1) j1 p0) [⟨.Name y p1, .Name bl p2, [.Compare (.Call (.Name x p3) [.Name y p4] [] p5) [.NotEq] [.Constant (.str ret) jn p6] p7], 0⟩] scope pos) Γ W [] W :=
  fun G H σ Q sl hk k => ⟨fun σ H Q => Slots F.K G Γ σ ∧ Hk F.K F.T G W H ∧ (∀ p G' H', H p = none → Step F.K F.T G W H G' ((p, .lst []) :: W) H' → Q (.ref p) H'), fun X hX => ⟨fun pins s σ H Q I ⟨sl, hk, k⟩ => by
    have hcx := hX.cl cl hcl
    have hN' : X.N.Nodup := by rw [hX.N]; exact hN
    have okX : BlkOk X.N X.env.scope scope [(y, j)] := blkOk_by (by rw [hX.N, hX.sc]; exact ok)
    refine lc_known (own := [(y, j)]) hX.calm hN' I (cI_pi (tg := .Name y p1) (iter := .Name bl p2) hX) okX (fun s H C cl fp => cG_pg (S := SatG (F.blk scope)) ⟨hX.blk scope s H C cl fp, hN'⟩)
      (fun s H C cl fp I0 f0 => pts_one (pt_cmpR op_ne (bad_pe (Γ := Γ) (W := W) hX T hk2 hgx hj (.inl hyl) hd hcd hdb I0 f0) pe_str (nobehind _ (by decide) (by decide)))) (fun s H C cl fp => pe_int) (fun _ => rfl) ?_
    refine (ei_list (F := F) (tg := .Name y p1) (ds := ds) (ev_var (pos := p2) jb hjb hvb hΓ hd2 hcd2) (.own ib hW)) G H σ _ sl hk fun J G1 H1 s1 wl D hD => ?_
    have nD : ∀ o, (D, o) ∉ W := fun o z => by
      obtain ⟨_, u, e, _⟩ := s1.hk.own _ z
      have e : H1 D = some u := e
      rw [hD] at e; cases e
    refine ⟨fun i m H' => m = ds.length - i ∧ i ≤ ds.length ∧ H' D = some (.lst []) ∧ ∃ G', Step F.K F.T G W H G' ((D, .lst []) :: W) H' ∧ Le G1 G', ⟨ds.length, by simp, Nat.zero_le _, upd_same, G1, s1.trans (s1.hk.allocO (w := .lst []) (o := .lst []) hD Rps.nil), .refl _⟩, ?_⟩
    rintro i m H' ⟨rfl, hil, eD, G', st, le⟩
    have hkW : Hk F.K F.T G' W H' := st.hk.less (List.sublist_cons_self _ _)
    obtain ⟨w1, w2⟩ := wl G' W H' le hkW (.own ib hW) i
    by_cases hlt : i < ds.length
    · have hget : ds[i]? = some ds[i] := List.getElem?_eq_getElem hlt
      obtain ⟨go, w3⟩ := w1 ds[i] hget
      obtain ⟨f, e, w, ed, hw, hv, hbl⟩ := hds i ds[i] hget
      refine .inr ⟨go, fun H2 => H2 D = some (.lst []) ∧ ∃ G2, Step F.K F.T G W H G2 ((D, .lst []) :: W) H2 ∧ Le G1 G2, fun H2 q => ⟨ds.length - (i + 1), by omega, rfl, hlt, q⟩, fun z H2 yl => ?_⟩
      obtain ⟨s3, y3⟩ := w3 z H2 yl
      rw [ed] at y3
      have ez : z = .ref f := by
        rcases y3 with r | ⟨t, vs, ds', _, _, e', _⟩
        · exact r.ptr_inv
        · cases e'
      subst ez
      have hjl : j < σ.length := by
        rw [I.len, hX.N]
        exact (List.getElem?_eq_some_iff.mp hj).1
      refine (eg_name (F := F.blk scope) (S := SatG (F.blk scope)) (fun X h => h) (pos := p1) (d := .ptr f) j hj (.inl hyl)) G' H2 (.ref f) (wipe σ [j]) _ ((sl.mono (s1.le.trans le)).wipe [j]) s3.hk.sub (.inl (.ptr f)) fun σ2 sl2 bt => ⟨wipe_but (vs := [j]) bt fun t ht => ht, ?_⟩
      have hs2 : σ2[j]? = some (some (.ref f)) := by
        obtain ⟨v, ev, rv⟩ := sl2.2 j (.ptr f) (by
          rw [List.getElem?_set_self]
          show j < (wipeG Γ [j]).length
          rw [wipeG_length, sl.1]; exact hjl)
        rw [ev, rv.ptr_inv]
      have st3 := st.trans (s3.more (W2 := [(D, .lst [])]) (st.hk.perm (List.perm_append_comm (l₁ := [(D, AO.lst [])]) (l₂ := W))) |>.perm (List.perm_append_comm (l₁ := W) (l₂ := [(D, AO.lst [])])) (List.perm_append_comm (l₁ := W) (l₂ := [(D, AO.lst [])])))
      refine ⟨f, G', e, w, hs2, sl.mono (s1.le.trans le), s3.hk, hw, hcx ▸ hv, hbl, fun G4 H4 s4 => ?_⟩
      have st4 := st3.trans (s4.more (W2 := [(D, .lst [])]) (st3.hk.perm (List.perm_append_comm (l₁ := [(D, AO.lst [])]) (l₂ := W))) |>.perm (List.perm_append_comm (l₁ := W) (l₂ := [(D, AO.lst [])])) (List.perm_append_comm (l₁ := W) (l₂ := [(D, AO.lst [])])))
      refine ⟨rfl, false, ?_, ?_⟩
      · simp
      · dsimp only
        rw [if_neg Bool.false_ne_true]
        obtain ⟨_, u, e5, r5⟩ := st4.hk.own _ List.mem_cons_self
        obtain ⟨vs, rfl, r5⟩ := r5.lst_inv
        rw [r5.inv0] at e5
        exact ⟨e5, G4, st4, le.trans s4.le⟩
    · have e : i = ds.length := by omega
      subst e
      exact .inl ⟨w2 (Nat.le_refl _), k D G' H' (s1.back hD) st⟩⟩, sl, hk, k⟩
end
end Sh
set_option Elab.async false
set_option linter.all false
set_option maxRecDepth 100000
set_option maxHeartbeats 1000000
set_option autoImplicit false
/-! ShR: comprehensions and generator expressions that change nothing, by a function of the item. -/
namespace Sh
open PySem PySem.Spec PyProof.Rows L2
section
variable {F : CF} {Γ : Ga} {W W1 : OW} {pos : Pos} {tg iter elt : Expr} {ifs : List Expr} {scope : Scope} {own : List (Str × Nat)} {ds : List D} {Wk : OW → Prop}
/-- one turn: the item's image, or none -/
def TurnF (F : CF) (tg : Expr) (ifs : List Expr) (elt : Expr) (vs : List Nat) (Γ0 : Ga) (W : OW) (d : D) (y : Option D) : Prop :=
  ∃ Γ1 ts, EG F (SatG F) tg Γ0 d Γ1 ts ∧ (∀ t ∈ ts, t ∈ vs) ∧ ∃ r, ETs F ifs Γ1 W r W ∧ (r = true → ∃ z, EV F elt Γ1 W (.ok z) W ∧ y = some z) ∧ (r = false → y = none)
theorem TurnF.one {F : CF} {vs : List Nat} {Γ0 : Ga} {d : D} {y : Option D} {i : Nat} (h : TurnF F tg ifs elt vs Γ0 W d y) (hd : ds[i]? = some d) (f : D → Option D) (e : f d = y) : Turn1 F tg ifs elt vs Γ0 d W ((ds.take i).filterMap f) W ((ds.take (i + 1)).filterMap f) := by
  obtain ⟨Γ1, ts, h1, h2, r, h3, h4, h5⟩ := h
  have et : (ds.take (i + 1)).filterMap f = (ds.take i).filterMap f ++ (f d).toList := by
    rw [List.take_add_one, hd, List.filterMap_append]
    cases e2 : f d with
    | none => simp [List.filterMap_cons, e2]
    | some z => simp [List.filterMap_cons, e2]
  refine ⟨Γ1, ts, h1, h2, r, W, h3, fun q => ?_, fun q => ⟨rfl, ?_⟩⟩
  · obtain ⟨z, h6, h7⟩ := h4 q
    exact ⟨z, h6, by rw [et, e, h7]; rfl⟩
  · rw [et, e, h5 q]
    exact List.append_nil _
/-- no test -/
theorem turn_map {F : CF} {vs : List Nat} {Γ0 Γ1 : Ga} {d z : D} {ts : List Nat} (h1 : EG F (SatG F) tg Γ0 d Γ1 ts) (h2 : ∀ t ∈ ts, t ∈ vs) (h3 : EV F elt Γ1 W (.ok z) W) : TurnF F tg [] elt vs Γ0 W d (some z) :=
  ⟨Γ1, ts, h1, h2, true, ets_nil, fun _ => ⟨z, h3, rfl⟩, fun q => by cases q⟩
/-- one test -/
theorem turn_if {F : CF} {vs : List Nat} {Γ0 Γ1 : Ga} {d z : D} {ts : List Nat} {c : Expr} {r : Bool} (h1 : EG F (SatG F) tg Γ0 d Γ1 ts) (h2 : ∀ t ∈ ts, t ∈ vs) (hc : ET F c Γ1 W (.ok r) W) (h3 : r = true → EV F elt Γ1 W (.ok z) W) : TurnF F tg [c] elt vs Γ0 W d (if r then some z else none) :=
  ⟨Γ1, ts, h1, h2, r, ets_one hc, fun q => ⟨z, h3 q, by rw [q]; rfl⟩, fun q => by rw [q]; rfl⟩
theorem en_lcF (f : D → Option D) (hN : F.N.Nodup) (ok : blkC F.N F.sc scope own = true) (hi : EI F tg iter Γ W ds Wk W1) (hwk : Wk W1) (hs : ∀ d ∈ ds, TurnF (F.blk scope) tg ifs elt (own.map (·.2)) (wipeG Γ (own.map (·.2))) W1 d (f d)) (hz : ds.length < sizeLine) (hf : ∀ env x, foldedSetIterable iter env x = pure x := by intro _ _; rfl) :
    EN F (.ListComp elt [⟨tg, iter, ifs, 0⟩] scope pos) Γ W (ds.filterMap f) W1 := by
  have := en_lc (pos := pos) hN ok hi (fun i => (ds.take i).filterMap f) (fun _ => W1) rfl rfl (fun _ _ => hwk) (fun i d hd => (hs d (List.mem_of_getElem? hd)).one hd f rfl) hz hf
  rw [List.take_length] at this
  exact this
theorem en_lcM (g : D → D) (hN : F.N.Nodup) (ok : blkC F.N F.sc scope own = true) (hi : EI F tg iter Γ W ds Wk W1) (hwk : Wk W1) (hs : ∀ d ∈ ds, TurnF (F.blk scope) tg ifs elt (own.map (·.2)) (wipeG Γ (own.map (·.2))) W1 d (some (g d))) (hz : ds.length < sizeLine) (hf : ∀ env x, foldedSetIterable iter env x = pure x := by intro _ _; rfl) :
    EN F (.ListComp elt [⟨tg, iter, ifs, 0⟩] scope pos) Γ W (ds.map g) W1 :=
  (en_lcF (fun d => some (g d)) hN ok hi hwk hs hz hf).to (by simp [List.filterMap_eq_map])
theorem gen_hF (f : D → Option D) {gpos : Pos} (gt : GTab F) (hk2 : 3 ≤ F.k) (hN : F.N.Nodup) (ok : blkC F.N F.sc scope own = true) (gk : GScp scope) (hi : EI F tg iter Γ W ds Wk W1) (hwk : Wk W1) (hs : ∀ cd d, d ∈ ds → TurnF (F.gen scope cd) tg ifs elt (own.map (·.2)) (wipeG Γ (own.map (·.2))) W1 d (f d)) (hf : ∀ env v, genFold iter env v = pure v := by intro _ _; rfl) :
    GenH F (.GeneratorExp elt [⟨tg, iter, ifs, 0⟩] scope gpos) Γ W (ds.filterMap f) W1 := by
  have := gen_h (gpos := gpos) (fun i => (ds.take i).filterMap f) gt hk2 hN ok gk hi hwk rfl (fun cd i d hd => (hs cd d (List.mem_of_getElem? hd)).one hd f rfl) hf
  rw [List.take_length] at this
  exact this
theorem gen_hM (g : D → D) {gpos : Pos} (gt : GTab F) (hk2 : 3 ≤ F.k) (hN : F.N.Nodup) (ok : blkC F.N F.sc scope own = true) (gk : GScp scope) (hi : EI F tg iter Γ W ds Wk W1) (hwk : Wk W1) (hs : ∀ cd d, d ∈ ds → TurnF (F.gen scope cd) tg ifs elt (own.map (·.2)) (wipeG Γ (own.map (·.2))) W1 d (some (g d))) (hf : ∀ env v, genFold iter env v = pure v := by intro _ _; rfl) :
    GenH F (.GeneratorExp elt [⟨tg, iter, ifs, 0⟩] scope gpos) Γ W (ds.map g) W1 := by
  have := gen_hF (gpos := gpos) (fun d => some (g d)) gt hk2 hN ok gk hi hwk hs hf
  rwa [show ds.filterMap (fun d => some (g d)) = ds.map g by simp [List.filterMap_eq_map]] at this
/-- dict comprehensions: the keys' function -/
theorem en_dcM {kx vx : Expr} (kf : D → Key) (vf : D → D) (hN : F.N.Nodup) (ok : blkC F.N F.sc scope own = true) (hi : EI F tg iter Γ W ds Wk W1) (hwk : Wk W1)
    (hs : ∀ d ∈ ds, ∃ Γ1 ts, EG (F.blk scope) (SatG (F.blk scope)) tg (wipeG Γ (own.map (·.2))) d Γ1 ts ∧ (∀ t ∈ ts, t ∈ own.map (·.2)) ∧ EV (F.blk scope) kx Γ1 W1 (.ok (kD (kf d))) W1 ∧ EV (F.blk scope) vx Γ1 W1 (.ok (vf d)) W1) (hz : ds.length < sizeLine) (hf : ∀ env x, foldedSetIterable iter env x = pure x := by intro _ _; rfl) :
    END F (.DictComp kx vx [⟨tg, iter, [], 0⟩] scope pos) Γ W (ds.foldl (fun a d => putD a (kf d) (vf d)) []) W1 := by
  have := en_dc (pos := pos) (kx := kx) (vx := vx) hN ok hi hwk (fun i => (ds.take i).foldl (fun a d => putD a (kf d) (vf d)) []) rfl (fun i d hd => by
    obtain ⟨Γ1, ts, h1, h2, h3, h4⟩ := hs d (List.mem_of_getElem? hd)
    refine ⟨Γ1, ts, h1, h2, true, ets_nil, fun _ => ⟨kf d, vf d, h3, h4, ?_⟩, fun q => by cases q⟩
    rw [List.take_add_one, hd, List.foldl_append]
    rfl) hz hf
  rw [List.take_length] at this
  exact this
end
end Sh
set_option Elab.async false
set_option linter.all false
set_option maxRecDepth 100000
set_option maxHeartbeats 1000000
set_option autoImplicit false
/-! ShT: rows that are lists or tuples; texts in them. -/
namespace Sh
open PySem PySem.Spec PyProof.Rows L2
/-- a row: a list or a tuple -/
def SeqF (d : D) (ds : List D) : Prop := d = .lst ds ∨ d = .tup ds
theorem SeqF.lst {ds : List D} : SeqF (.lst ds) ds := .inl rfl
theorem SeqF.tup {ds : List D} : SeqF (.tup ds) ds := .inr rfl
theorem SeqF.len {d : D} {ds : List D} (h : SeqF d ds) (W : OW) : LenD W d ds.length := by
  rcases h with rfl | rfl
  · exact .lst .lst
  · exact .tup ds
theorem SeqF.ix {d : D} {ds : List D} (h : SeqF d ds) {W : OW} {i : Int} {x : D} (e : L2.atI ds i = some x) : IxD W d (.int i) x := by
  rcases h with rfl | rfl
  · exact .lst .lst e
  · exact .tup e
theorem SeqF.q {d : D} {ds : List D} (h : SeqF d ds) (W : OW) : SeqD W d ds := by
  rcases h with rfl | rfl
  · exact .lst .lst
  · exact .tup ds
/-- texts as data -/
theorem py_strs {W : OW} (zs : List Str) (i : Nat) (d : D) (p : PyData) (h1 : (zs.map D.str)[i]? = some d) (h2 : (zs.map PyData.str)[i]? = some p) : Py W d p := by
  rw [List.getElem?_map] at h1 h2
  cases e : zs[i]? with
  | none => rw [e] at h1; cases h1
  | some z =>
    rw [e] at h1 h2
    cases h1
    cases h2
    exact .str z
theorem py_ints {W : OW} (zs : List Int) (i : Nat) (d : D) (p : PyData) (h1 : (zs.map D.int)[i]? = some d) (h2 : (zs.map PyData.int)[i]? = some p) : Py W d p := by
  rw [List.getElem?_map] at h1 h2
  cases e : zs[i]? with
  | none => rw [e] at h1; cases h1
  | some z =>
    rw [e] at h1 h2
    cases h1
    cases h2
    exact .int z
theorem Py.strsL {W : OW} (zs : List Str) : Py W (.lst (zs.map .str)) (.list (zs.map .str)) := .lst (by simp) (py_strs zs)
theorem Py.strsT {W : OW} (zs : List Str) : Py W (.tup (zs.map .str)) (.tuple (zs.map .str)) := .tup (by simp) (py_strs zs)
theorem Py.intsL {W : OW} (zs : List Int) : Py W (.lst (zs.map .int)) (.list (zs.map .int)) := .lst (by simp) (py_ints zs)
theorem Py.intsT {W : OW} (zs : List Int) : Py W (.tup (zs.map .int)) (.tuple (zs.map .int)) := .tup (by simp) (py_ints zs)

/-- plain things as data: == is equality -/
structure Enc {α : Type} [DecidableEq α] (ok : α → Prop) (enc : α → PyData) (n : Nat) : Prop where
  lay : ∀ a, ok a → (enc a).canLay0 = true
  dep : ∀ a, (enc a).depth ≤ n
  eq : ∀ a b, PyData.eqv (enc a) (enc b) = decide (a = b)
theorem enc_int : Enc (fun _ : Int => True) PyData.int 0 := ⟨fun _ _ => by simp only [PyData.canLay0], fun _ => by simp only [PyData.depth]; exact Nat.le_refl _, fun a b => by simp only [PyData.eqv]; rfl⟩
theorem enc_str : Enc (fun z : Str => PyData.strOk z = true) PyData.str 0 := ⟨fun _ h => by simp only [PyData.canLay0]; exact h, fun _ => by simp only [PyData.depth]; exact Nat.le_refl _, fun a b => by simp only [PyData.eqv]; rfl⟩
section
variable {α : Type} [DecidableEq α] {ok : α → Prop} {enc : α → PyData} {n : Nat}
theorem Enc.layAll (E : Enc ok enc n) : ∀ xs : List α, (∀ x ∈ xs, ok x) → PyData.canLayAll0 (xs.map enc) = true
  | [], _ => by rw [List.map_nil, PyData.canLayAll0]
  | x :: xs, h => by rw [List.map_cons, PyData.canLayAll0, E.lay x (h x List.mem_cons_self), E.layAll xs fun y hy => h y (List.mem_cons_of_mem _ hy)]; rfl
theorem Enc.depAll (E : Enc ok enc n) : ∀ xs : List α, PyData.depthAll (xs.map enc) ≤ n
  | [] => by rw [List.map_nil, PyData.depthAll]; exact Nat.zero_le _
  | x :: xs => by rw [List.map_cons, PyData.depthAll]; exact Nat.max_le.mpr ⟨E.dep x, E.depAll xs⟩
theorem Enc.eqAll (E : Enc ok enc n) : ∀ xs ys : List α, PyData.eqvAll (xs.map enc) (ys.map enc) = decide (xs = ys)
  | [], [] => by simp [PyData.eqvAll]
  | [], _ :: _ => by simp [PyData.eqvAll]
  | _ :: _, [] => by simp [PyData.eqvAll]
  | x :: xs, y :: ys => by
    rw [List.map_cons, List.map_cons, PyData.eqvAll, E.eq, E.eqAll xs ys]
    by_cases h1 : x = y
    · by_cases h2 : xs = ys
      · simp [h1, h2]
      · simp [h1, h2]
    · simp [h1]
theorem Enc.list (E : Enc ok enc n) : Enc (fun xs : List α => ∀ x ∈ xs, ok x) (fun xs => .list (xs.map enc)) (n + 1) :=
  ⟨fun xs h => by rw [PyData.canLay0]; exact E.layAll xs h, fun xs => by rw [PyData.depth]; exact Nat.succ_le_succ (E.depAll xs), fun xs ys => by rw [PyData.eqv]; exact E.eqAll xs ys⟩
theorem Enc.tup (E : Enc ok enc n) : Enc (fun xs : List α => ∀ x ∈ xs, ok x) (fun xs => .tuple (xs.map enc)) (n + 1) :=
  ⟨fun xs h => by rw [PyData.canLay0]; exact E.layAll xs h, fun xs => by rw [PyData.depth]; exact Nat.succ_le_succ (E.depAll xs), fun xs ys => by rw [PyData.eqv]; exact E.eqAll xs ys⟩
theorem Enc.shaped (E : Enc ok enc n) (hn : n ≤ 64) {a : α} (h : ok a) : SeqAt.shaped (enc a) = true := by
  unfold SeqAt.shaped
  rw [E.lay a h]
  exact decide_eq_true (Nat.le_trans (E.dep a) hn)
theorem Enc.any (E : Enc ok enc n) (xs : List α) (x : α) : ((xs.map enc).any fun q => PyData.eqv q (enc x)) = decide (x ∈ xs) := by
  rw [List.any_map]
  rw [Bool.eq_iff_iff, List.any_eq_true, decide_eq_true_iff]
  constructor
  · rintro ⟨y, hy, e⟩
    have : y = x := of_decide_eq_true ((E.eq y x) ▸ e)
    exact this ▸ hy
  · exact fun h => ⟨x, h, by show PyData.eqv (enc x) (enc x) = true; rw [E.eq]; exact decide_eq_true rfl⟩
end
theorem shaped_str {z : Str} (h : PyData.strOk z = true) : SeqAt.shaped (.str z) = true := enc_str.shaped (by decide) h
theorem shaped_strsL {zs : List Str} (h : ∀ z ∈ zs, PyData.strOk z = true) : SeqAt.shaped (.list (zs.map .str)) = true := enc_str.list.shaped (by decide) h
theorem shaped_strsT {zs : List Str} (h : ∀ z ∈ zs, PyData.strOk z = true) : SeqAt.shaped (.tuple (zs.map .str)) = true := enc_str.tup.shaped (by decide) h
theorem shaped_intsL (zs : List Int) : SeqAt.shaped (.list (zs.map .int)) = true := enc_int.list.shaped (by decide) fun _ _ => trivial
theorem shaped_intsT (zs : List Int) : SeqAt.shaped (.tuple (zs.map .int)) = true := enc_int.tup.shaped (by decide) fun _ _ => trivial
/-- the first place of x -/
theorem idx_first {α : Type} [DecidableEq α] {xs : List α} {x : α} (h : x ∈ xs) : xs[xs.idxOf x]? = some x ∧ ∀ m y, m < xs.idxOf x → xs[m]? = some y → y ≠ x := by
  have hl := List.idxOf_lt_length_of_mem h
  refine ⟨by rw [List.getElem?_eq_getElem hl, List.getElem_idxOf], fun m y hm hy => ?_⟩
  obtain ⟨hm2, e⟩ := List.getElem?_eq_some_iff.mp hy
  rw [← e]
  exact beq_eq_false_iff_ne.mp (List.not_of_lt_findIdx hm)
section
variable {F : CF} {Γ : Ga} {W W1 : OW} {pos p : Pos} {e : Expr} {d : D} {ds : List D}
theorem ei_seq {tg : Expr} (h : EV F e Γ W (.ok d) W1) (hd : SeqF d ds) : EI F tg e Γ W ds (fun _ => True) W1 := by
  rcases hd with rfl | rfl
  · exact fun G H σ R sl hk k => ei_list h .lst G H σ R sl hk fun J G' H' s wl => k J G' H' s fun G2 W2 H2 le hk2 _ => wl G2 W2 H2 le hk2 .lst
  · exact ei_tup h
/-- row.index(z) -/
theorem ev_indexS {a : Expr} {W2 : OW} {zs : List Str} {z : Str} {apos : Pos} (ho : EV F a Γ W (.ok d) W1) (hd : SeqF d (zs.map .str)) (ha : EV F e Γ W1 (.ok (.str z)) W2) (hz : ∀ y ∈ zs, PyData.strOk y = true) (hm : z ∈ zs)
    (hbase : ∀ env, attributeBase a "index" env (eval a env) = eval a env := by intro _; rfl)
    (hfew : ∀ env, ((backTo pos (starEach [e] env)).all (fun x => !x.1) && (backToKw pos (keywordEach [] env)).all (fun x => x.1.isSome) && decide ([e].length + ([] : List Keyword).length + (if ([] : List Keyword).isEmpty then 0 else 1) < 30)) = true := by intro _; rfl)
    (hline : (apos.endLine == pos.line) = true := by rfl) (hs : ∀ env, starEach [e] env = (false, eval e env) :: starEach [] env := by intro _; rfl) : EV F (.Call (.Attribute a "index" apos) [e] [] pos) Γ W (.ok (.int (zs.idxOf z : Nat))) W2 := by
  obtain ⟨h1, h2⟩ := idx_first hm
  have hq : (zs.map PyData.str)[zs.idxOf z]? = some (.str z) := by rw [List.getElem?_map, h1]; rfl
  have hn : ∀ (m : Nat) (q : PyData), m < zs.idxOf z → (zs.map PyData.str)[m]? = some q → PyData.eqv q (.str z) = false := fun m q hm hq => by
    rw [List.getElem?_map] at hq
    cases e : zs[m]? with
    | none => rw [e] at hq; cases hq
    | some y =>
      rw [e] at hq
      cases hq
      rw [enc_str.eq]
      exact decide_eq_false (h2 m y hm e)
  have he : PyData.eqv (.str z) (.str z) = true := by rw [enc_str.eq]; exact decide_eq_true rfl
  rcases hd with rfl | rfl
  · exact ev_lindex ho ha .lst (Py.strsL zs) (.str z) (shaped_strsL hz) (shaped_str (hz z hm)) hq he hn hbase hfew hline hs
  · exact ev_tindex ho ha (Py.strsT zs) (.str z) (shaped_strsT hz) (shaped_str (hz z hm)) hq he hn hbase hfew hline hs
/-- z in row -/
theorem SeqF.inS {W : OW} {zs : List Str} {z : Str} (hd : SeqF d (zs.map .str)) (hz : ∀ y ∈ zs, PyData.strOk y = true) (h : PyData.strOk z = true) : CmpR W .In (.str z) d (decide (z ∈ zs)) := by
  rcases hd with rfl | rfl
  · exact .inL (.str z) (Py.strsL zs) (shaped_str h) (shaped_strsL hz) (enc_str.any zs z)
  · exact .inT (.str z) (Py.strsT zs) (shaped_str h) (shaped_strsT hz) (enc_str.any zs z)
/-- tuple(row) -/
theorem ev_tupleSeq {a : Expr} (hg : GlS F "tuple") (hm : F.mg "tuple" = none) (ha : EV F a Γ W (.ok d) W1) (h : SeqF d ds) (he : ∀ env, starEach [a] env = (false, eval a env) :: starEach [] env := by intro _; rfl) : EV F (.Call (.Name "tuple" p) [a] [] pos) Γ W (.ok (.tup ds)) W1 := by
  rcases h with rfl | rfl
  · exact ev_tupleL hg hm ha .lst he
  · exact ev_tupleT hg hm ha he
theorem range_get {α : Type} (xs : List α) : ∀ n, (List.range n).filterMap (fun m => xs[m]?) = xs.take n
  | 0 => by simp
  | n + 1 => by
    rw [List.range_succ, List.filterMap_append, range_get xs n, List.take_add_one]
    cases h : xs[n]? <;> simp [h]
theorem strided_one {α : Type} (xs : List α) : StepS.strided xs 0 1 = xs := by
  unfold StepS.strided
  rw [show (xs.length - 0 + 1 - 1) / 1 = xs.length by omega]
  have := range_get xs xs.length
  rw [List.take_length] at this
  simpa using this
theorem strided_len {α : Type} (xs : List α) (a c : Nat) (hc : 0 < c) : (StepS.strided xs a c).length ≤ xs.length := by
  unfold StepS.strided
  refine Nat.le_trans (List.length_filterMap_le _ _) ?_
  rw [List.length_range]
  by_cases h : xs.length - a = 0
  · rw [h, show 0 + c - 1 = c - 1 by omega, Nat.div_eq_of_lt (by omega)]
    exact Nat.zero_le _
  · refine Nat.div_le_of_le_mul ?_
    have h1 : xs.length - a ≤ xs.length := Nat.sub_le _ _
    obtain ⟨m, hm⟩ : ∃ m, xs.length = m + 1 := ⟨xs.length - 1, by omega⟩
    rw [hm] at h1 ⊢
    have : c * (m + 1) = c * m + c := Nat.mul_succ c m
    have h2 : m ≤ c * m := Nat.le_mul_of_pos_left m hc
    omega
/-- row[i::n] -/
theorem ev_stepSeq {st : Expr} {lo : Option Expr} {p2 : Pos} {W2 W3 W4 : OW} {i n : Nat} (he : EV F e Γ W (.ok d) W1) (hl : EO F lo Γ W1 (some (i : Int)) W2) (hh : EO F none Γ W2 none W3) (hs : EO F (some st) Γ W3 (some (n : Int)) W4) (hd : SeqF d ds) (h0 : 0 < n) (hz : ds.length ≤ sizeLine) :
    ∃ d', SeqF d' (StepS.strided ds i n) ∧ EV F (.Subscript e (.Slice lo none (some st) p2) pos) Γ W (.ok d') W4 := by
  rcases hd with rfl | rfl
  · refine ⟨_, .lst, ?_⟩
    have := (en_step (pos := pos) (p2 := p2) he hl hh hs (.lst (ds := ds)) (by intro z; injection z with z; omega)).ev
    rw [StepS.pickL_from ds i n h0] at this
    exact this
  · refine ⟨_, .tup, ?_⟩
    have := ev_stepT (pos := pos) (p2 := p2) he hl hh hs (by omega) (by rw [StepS.pickT_from ds i n h0]; exact Nat.le_trans (strided_len ds i n h0) hz) (fun q => by
      rw [StepS.pickT_from ds i n h0]
      simp only [Bool.and_eq_true, beq_iff_eq] at q
      obtain ⟨⟨q1, q2⟩, _⟩ := q
      have n1 : n = 1 := by omega
      subst n1
      by_cases hi : i = 0
      · subst hi
        exact strided_one ds
      · have e0 : ds = [] := by
          cases ds with
          | nil => rfl
          | cons x r =>
            exfalso
            unfold Builtin.Slice.sliceAdjust at q1
            simp only [List.length_cons] at q1
            rw [if_neg (show ¬ ((1 : Nat) : Int) < 0 by omega)] at q1
            rw [if_neg (show ¬ ((i : Nat) : Int) < 0 by omega)] at q1
            simp at q1
            omega
        subst e0
        exact List.eq_nil_of_length_eq_zero (Nat.le_zero.mp (strided_len ([] : List D) i 1 (by decide))))
    rw [StepS.pickT_from ds i n h0] at this
    exact this
/-- tuple(row[i::n]) -/
theorem ev_tupStep {st : Expr} {lo : Option Expr} {p2 p3 : Pos} {W2 W3 W4 : OW} {i n : Nat} (hg : GlS F "tuple") (hm : F.mg "tuple" = none) (he : EV F e Γ W (.ok d) W1) (hl : EO F lo Γ W1 (some (i : Int)) W2) (hh : EO F none Γ W2 none W3) (hs : EO F (some st) Γ W3 (some (n : Int)) W4) (hd : SeqF d ds) (h0 : 0 < n) (hz : ds.length ≤ sizeLine)
    (h1 : ∀ env, starEach [.Subscript e (.Slice lo none (some st) p2) p3] env = (false, eval (.Subscript e (.Slice lo none (some st) p2) p3) env) :: starEach [] env := by intro _; rfl) : EV F (.Call (.Name "tuple" p) [.Subscript e (.Slice lo none (some st) p2) p3] [] pos) Γ W (.ok (.tup (StepS.strided ds i n))) W4 := by
  obtain ⟨d', q1, q2⟩ := ev_stepSeq (pos := p3) (p2 := p2) he hl hh hs hd h0 hz
  exact ev_tupleSeq hg hm q2 q1 h1
end
end Sh
set_option Elab.async false
set_option linter.all false
set_option maxRecDepth 100000
set_option maxHeartbeats 1000000
set_option autoImplicit false
/-! ShU: how many keys a dict comprehension has. -/
namespace Sh
open PySem PySem.Spec PyProof.Rows L2
section
variable {κ : Type} [DecidableEq κ]
theorem putD_keys (acc : List (κ × D)) (k : κ) (v : D) : (putD acc k v).map (·.1) = if k ∈ acc.map (·.1) then acc.map (·.1) else acc.map (·.1) ++ [k] := by
  unfold putD
  have e : (acc.any fun kv => decide (kv.1 = k)) = decide (k ∈ acc.map (·.1)) := by
    rw [Bool.eq_iff_iff, List.any_eq_true, decide_eq_true_iff, List.mem_map]
    exact ⟨fun ⟨x, h1, h2⟩ => ⟨x, h1, of_decide_eq_true h2⟩, fun ⟨x, h1, h2⟩ => ⟨x, h1, decide_eq_true h2⟩⟩
  rw [e]
  by_cases h : k ∈ acc.map (·.1)
  · rw [if_pos h, if_pos (decide_eq_true h), List.map_map]
    refine List.map_congr_left fun x _ => ?_
    show (if x.1 = k then (x.1, v) else x).1 = x.1
    split <;> rfl
  · rw [if_neg h, if_neg (by rw [decide_eq_false h]; exact Bool.false_ne_true), List.map_append]
    rfl
/-- the keys in the order of their first coming -/
def keysOf : List κ → List κ → List κ
  | acc, [] => acc
  | acc, k :: ks => keysOf (if k ∈ acc then acc else acc ++ [k]) ks
theorem fold_keys {α : Type} (kf : α → κ) (vf : α → D) : ∀ (xs : List α) (acc : List (κ × D)), (xs.foldl (fun a d => putD a (kf d) (vf d)) acc).map (·.1) = keysOf (acc.map (·.1)) (xs.map kf)
  | [], acc => rfl
  | x :: xs, acc => by
    rw [List.foldl_cons, fold_keys kf vf xs, putD_keys]
    rfl
theorem keysOf_mem : ∀ (ks acc : List κ) (k : κ), k ∈ keysOf acc ks ↔ k ∈ acc ∨ k ∈ ks
  | [], acc, k => by simp [keysOf]
  | j :: ks, acc, k => by
    unfold keysOf
    rw [keysOf_mem ks]
    by_cases h : j ∈ acc
    · rw [if_pos h, List.mem_cons]
      constructor
      · rintro (a | a)
        · exact .inl a
        · exact .inr (.inr a)
      · rintro (a | a | a)
        · exact .inl a
        · exact .inl (a ▸ h)
        · exact .inr a
    · rw [if_neg h, List.mem_append, List.mem_singleton, List.mem_cons, or_assoc]
theorem keysOf_nodup : ∀ (ks acc : List κ), acc.Nodup → (keysOf acc ks).Nodup
  | [], acc, h => h
  | j :: ks, acc, h => by
    unfold keysOf
    refine keysOf_nodup ks _ ?_
    split
    · exact h
    · rename_i hj
      exact List.nodup_append.mpr ⟨h, by simp, fun a ha b hb => by
        rw [List.mem_singleton] at hb
        exact fun z => hj (by rw [← hb, ← z]; exact ha)⟩
theorem keysOf_len : ∀ (ks acc : List κ), (keysOf acc ks).length ≤ acc.length + ks.length
  | [], acc => Nat.le_refl _
  | j :: ks, acc => by
    unfold keysOf
    refine Nat.le_trans (keysOf_len ks _) ?_
    split
    · rw [List.length_cons]; omega
    · simp only [List.length_append, List.length_cons, List.length_nil]; omega
theorem keysOf_all : ∀ (ks acc : List κ), (∀ k ∈ ks, k ∉ acc) → ks.Nodup → keysOf acc ks = acc ++ ks
  | [], acc, _, _ => by simp [keysOf]
  | j :: ks, acc, h, hn => by
    rw [List.nodup_cons] at hn
    unfold keysOf
    rw [if_neg (h j List.mem_cons_self), keysOf_all ks _ (fun k hk z => ?_) hn.2, List.append_assoc]
    · rfl
    · rw [List.mem_append, List.mem_singleton] at z
      rcases z with z | z
      · exact h k (List.mem_cons_of_mem _ hk) z
      · exact hn.1 (z ▸ hk)
theorem keysOf_lt : ∀ (ks acc : List κ), ¬ ((∀ k ∈ ks, k ∉ acc) ∧ ks.Nodup) → (keysOf acc ks).length < acc.length + ks.length
  | [], acc, h => absurd ⟨fun _ z => (by cases z), List.nodup_nil⟩ h
  | j :: ks, acc, h => by
    unfold keysOf
    by_cases hj : j ∈ acc
    · rw [if_pos hj]
      have := keysOf_len ks acc
      rw [List.length_cons]
      omega
    · rw [if_neg hj]
      have := keysOf_lt ks (acc ++ [j]) fun ⟨h1, h2⟩ => h ⟨fun k hk => ?_, List.nodup_cons.mpr ⟨fun z => h1 j z (by simp), h2⟩⟩
      · rw [List.length_append, List.length_singleton] at this
        rw [List.length_cons]
        omega
      · rcases List.mem_cons.mp hk with z | z
        · exact z ▸ hj
        · exact fun y => h1 k z (List.mem_append_left _ y)
/-- fewer keys than items: some come twice -/
theorem fold_len {α : Type} (kf : α → κ) (vf : α → D) (xs : List α) : (xs.foldl (fun a d => putD a (kf d) (vf d)) []).length = (keysOf [] (xs.map kf)).length := by
  rw [← List.length_map (f := fun x : κ × D => x.1), fold_keys kf vf xs []]
  rfl
theorem keys_lt_iff (ks : List κ) : (keysOf [] ks).length < ks.length ↔ ¬ ks.Nodup := by
  constructor
  · intro h hn
    rw [keysOf_all ks [] (fun _ _ z => by cases z) hn] at h
    simp at h
  · intro h
    have := keysOf_lt ks [] fun z => h z.2
    simpa using this
end
end Sh
set_option Elab.async false
set_option linter.all false
set_option maxRecDepth 100000
set_option maxHeartbeats 1000000
set_option autoImplicit false
/-! ShV: x = [..] as a known list; filters. -/
namespace Sh
open PySem PySem.Spec PyProof.Rows L2
section
variable {F : CF} {Γ : Ga} {W W1 : OW} {pos : Pos} {A : AE}
/-- a new list in a slot is known from now on -/
theorem S1.frozen {st : Stmt} {Γ0 : Ga} {j : Nat} {xs : List D} (h : S1 F st Γ W { A with nx := fun Γ' W' => ∃ q, Γ' = Γ0.set j (some (.ptr q)) ∧ W' = (q, .lst xs) :: W1 }) (hA : A.nx (Γ0.set j (some (.lst xs))) W1) : S1 F st Γ W A :=
  fun G H σ De sl hk k => h G H σ De sl hk ⟨fun Γ' W' G' H' σ' ⟨q, e1, e2⟩ s sl' => by
      subst e1 e2
      obtain ⟨o, e, r, st⟩ := s.hk.freeze (i := 0) (a := q) (w := .lst xs) rfl
      obtain ⟨vs, rfl, r⟩ := r.lst_inv
      refine k.nx _ _ _ _ _ hA (s.trans st) ⟨by rw [List.length_set]; have := sl'.1; rw [List.length_set] at this; exact this, fun i d hd => ?_⟩
      by_cases hi : j = i
      · subst hi
        have hl : j < Γ0.length := by
          have := (List.getElem?_eq_some_iff.mp hd).1
          rwa [List.length_set] at this
        rw [List.getElem?_set_self hl] at hd
        cases hd
        obtain ⟨v, e1, r1⟩ := sl'.2 j (.ptr q) (List.getElem?_set_self hl)
        obtain rfl := r1.ptr_inv
        exact ⟨_, e1, .lst_mk upd_same (r.mono st.le)⟩
      · rw [List.getElem?_set_ne hi] at hd
        obtain ⟨v, e1, r1⟩ := sl'.2 i d (by rw [List.getElem?_set_ne hi]; exact hd)
        exact ⟨v, e1, r1.mono st.le⟩, k.rt, k.bk, k.ct, k.er⟩
/-- name = [..] on one line, by a function of the item: known from now on -/
theorem s1_setLcF (j : Nat) (f : D → Option D) {y : Str} {py spos : Pos} {tg iter elt : Expr} {ifs : List Expr} {scope : Scope} {own : List (Str × Nat)} {ds : List D} {Wk : OW → Prop} (hN : F.N.Nodup) (hj : F.N[j]? = some y) (hy : F.sc.names.lookup y = some .local) (hkd : F.sc.kind = .function) (hl : (py.line == pos.line) = true)
    (hnm : (scope.names.any fun (n, k) => n == y && (k == .local || k == .cell)) = false) (ok : blkC F.N F.sc scope own = true) (hi : EI F tg iter Γ W ds Wk W1) (hwk : Wk W1) (hs : ∀ d ∈ ds, TurnF (F.blk scope) tg ifs elt (own.map (·.2)) (wipeG Γ (own.map (·.2))) W1 d (f d)) (hz : ds.length < sizeLine)
    (hA : A.nx (Γ.set j (some (.lst (ds.filterMap f)))) W1) (hf : ∀ env x, foldedSetIterable iter env x = pure x := by intro _ _; rfl) :
    S1 F (.Assign [.Name y py] (.ListComp elt [⟨tg, iter, ifs, 0⟩] scope pos) spos) Γ W A := by
  refine S1.frozen (Γ0 := Γ) (j := j) (xs := ds.filterMap f) (W1 := W1) ?_ hA
  refine s1_setLc j hN hj hy hkd hl hnm ok hi (fun i => (ds.take i).filterMap f) (fun _ => W1) rfl rfl (fun _ _ => hwk) (fun i d hd => (hs d (List.mem_of_getElem? hd)).one hd f rfl) hz (fun q => ⟨q, rfl, ?_⟩) hf
  rw [List.take_length]
end
theorem GenH.to {F : CF} {Γ : Ga} {W W1 : OW} {e : Expr} {xs ys : List D} (h : GenH F e Γ W xs W1) (q : xs = ys) : GenH F e Γ W ys W1 := q ▸ h
/-- the text that a thing is -/
def strD : D → Str
  | .str z => z
  | _ => ⟨#[]⟩
def intD : D → Int
  | .int i => i
  | _ => 0
theorem filt_strs (p : Str → Bool) (zs : List Str) : (zs.map D.str).filterMap (fun d => if p (strD d) then some d else none) = (zs.filter p).map D.str := by
  induction zs with
  | nil => rfl
  | cons z zs ih =>
    rw [List.map_cons, List.filterMap_cons, List.filter_cons]
    rw [show strD (D.str z) = z from rfl]
    cases h : p z <;> simp [ih]
theorem map_strs {α : Type} (g : Str → α) (zs : List Str) : (zs.map D.str).map (fun d => g (strD d)) = zs.map g := by
  rw [List.map_map]
  rfl
theorem map_ints {α : Type} (g : Int → α) (zs : List Int) : (zs.map D.int).map (fun d => g (intD d)) = zs.map g := by
  rw [List.map_map]
  rfl
theorem cutD_from {α : Type} (xs : List α) (a : Nat) : cutD xs (some (a : Int)) none = xs.drop a := by
  unfold cutD
  rw [show HT.sIx xs.length 0 (some (a : Int)) = min a xs.length from HT.sIx_nat xs.length 0 a, HT.sIx_none]
  by_cases h : a ≤ xs.length
  · rw [Nat.min_eq_left h, List.take_of_length_le (by rw [List.length_drop]; exact Nat.le_refl _)]
  · rw [Nat.min_eq_right (by omega), List.drop_of_length_le (Nat.le_refl _), List.drop_of_length_le (by omega)]
    simp
theorem cutD_to {α : Type} (xs : List α) (b : Nat) : cutD xs none (some (b : Int)) = xs.take b := by
  unfold cutD
  rw [show HT.sIx xs.length xs.length (some (b : Int)) = min b xs.length from HT.sIx_nat xs.length xs.length b, HT.sIx_none, List.drop_zero, Nat.sub_zero]
  by_cases h : b ≤ xs.length
  · rw [Nat.min_eq_left h]
  · rw [Nat.min_eq_right (by omega), List.take_of_length_le (Nat.le_refl _), List.take_of_length_le (by omega)]
end Sh
set_option Elab.async false
set_option linter.all false
set_option maxRecDepth 100000
set_option maxHeartbeats 1000000
set_option autoImplicit false
/-! ShW: < of data, min of a list of data, list(range(..)), powers, dict displays, dict of pairs. -/
namespace StepS
open PySem PySem.Spec PySem.W PyProof.Rows L2
def rLtD (K : PySem.W.Frag) : R2 := fun x y H Q => ∃ d e, Dp K H x d ∧ Dp K H y e ∧ alike d e = true ∧ d ≠ .none ∧ SeqAt.shaped d = true ∧ Q (.bl (dataLt d e)) H
theorem op_ltD {X : Cx} (hu : X.A.units + 64 < cLine) : OpR X (compareOp .Lt) (rLtD X.K) := by
  intro pins s σ H x y v u Q I rx ry h
  obtain ⟨d, e, hd, he, al, nn, sd, q⟩ := h
  obtain ⟨as, r1⟩ := Dp.reads I d x v hd rx
  obtain ⟨bs, r2⟩ := Dp.reads I e y u he ry
  have h1 := SeqAt.depth_of_shaped sd
  have h2 : min d.depth e.depth ≤ d.depth := Nat.min_le_left _ _
  exact lt_data r1 r2 al nn (by omega) ⟨.bl _, H, I, rfl, q⟩
/-- min of a list of data: the first of the least, as it stands -/
def rMinD (K : PySem.W.Frag) : List V → Hp → VK → Prop := fun vs H Q => ∃ (a : Addr) (xs : List V) (p : PyData) (ps : List PyData), vs = [V.ref a] ∧ SqL K H a xs ∧ DpAll K H xs (p :: ps) ∧ AlikeAll (p :: ps) ∧ PyData.depthAll (p :: ps) ≤ 60 ∧
  ∀ (i : Nat) (v : V), xs[i]? = some v → (p :: ps)[i]? = some (minD p ps) → Q v H
theorem min_list_ix {prog : Program} {w : World} {A : Around} {E : Value → Shared → Prop} {s : Shared} {l : Addr} {vs : Array Value} {x : PyData} {xs : List PyData} {as : List Addr} {Q : Value → Shared → Prop} (hh : A.handled = none) (hl : s.heap.IsList l vs) (hr : ReadsAll s.heap vs.toList (x :: xs) as) (ha : AlikeAll (x :: xs)) (hu : A.units + 1 + PyData.depthAll (x :: xs) < cLine)
    (h : ∀ (i : Nat) v h' tk, vs[i]? = some v → (x :: xs)[i]? = some (minD x xs) → (∀ b o, s.heap.get? b = some o → h'.get? b = some o) → Q v { s with heap := h', toks := tk }) :
    wpAny (model prog w) A (call (.builtin "min") [.ref l]) Q E s := by
  have hn : vs.size = xs.length + 1 := readsAll_len hr
  refine call_min_walkH (iter_listW (A := A.in1) hh hl fun s₂ e W st hfp hw hk => ?_)
  refine ⟨_, _, _, _, _, _, _, s.heap, _, rfl, W, st, hfp, by omega, hw, hk, cmpIn_lt (A := A.in1) hr ha (by show A.units + 1 + _ < _; exact hu), fun v s' hP m => ?_⟩
  obtain ⟨h', tk, rfl, hk'⟩ := moved_old e rfl m
  have e1 : vs.size - 1 = xs.length := by omega
  have e2 := argBest_fold dataLt PyData.none x xs xs.length (Nat.le_refl _)
  rw [List.take_length] at e2
  rw [e1] at hP
  refine h _ v h' tk hP ?_ hk'
  have e3 := e2.2
  rw [List.getD_eq_getElem?_getD] at e3
  unfold minD
  rw [← e3]
  rw [List.getElem?_eq_getElem (by rw [List.length_cons]; exact Nat.lt_succ_of_le e2.1)]
  rfl
theorem cr_minD {X : Cx} (hc : X.calm = true) (hu : X.A.units + 65 < cLine) : CallR X (.builtin "min") (rMinD X.K) := by
  intro pins s σ H vs us Q I r h
  obtain ⟨a, xs, p, ps, rfl, hs, hd, ha, hz, q⟩ := h
  obtain ⟨its, rv, hl, _⟩ := I.list hs
  rw [Vals.ref1 r]
  obtain ⟨as, h4⟩ := Dp.readsAll I _ _ its hd rv
  refine min_list_ix (I.ok.hd hc) hl.isList h4 ha (by omega) fun i v h' tk e1 e2 hk => ?_
  have e1 : its[i]? = some v := by simpa using e1
  obtain ⟨hi, _⟩ := List.getElem?_eq_some_iff.mp e1
  have hx : xs[i]? = some (xs[i]'(by rw [rv.length]; exact hi)) := List.getElem?_eq_getElem _
  obtain ⟨w, ew, rw'⟩ := rv.get hx
  rw [e1] at ew
  cases ew
  exact ⟨_, H, I.kept hk, rw', q i _ hx e2⟩
end StepS
namespace Sh
open PySem PySem.Spec PySem.W PyProof.Rows L2
section
variable {F : CF} {Γ : Ga} {W W1 W2 W3 : OW} {pos p : Pos} {a b c e : Expr} {d d1 d2 d3 : D} {o : Out}
theorem et_ltD {x y : PyData} (ha : EV F a Γ W (.ok d1) W1) (hb : EV F b Γ W1 (.ok d2) W2) (h1 : Py W2 d1 x) (h2 : Py W2 d2 y) (al : alike x y = true) (nn : x ≠ .none) (sd : SeqAt.shaped x = true) (hm : behindInMarks .Lt b = false := by first | exact nobehind _ (by decide) (by decide) | rfl) : ET F (.Compare a [.Lt] [b] pos) Γ W (.ok (dataLt x y)) W2 :=
  fun G H σ Q sl hk k => ⟨tTest (tOp (StepS.rLtD F.K) (cE F a) (cE F b)), fun X hX => pt_cmpR (hX.K ▸ StepS.op_ltD (by have := hX.un; omega)) (cE_pe hX) (cE_pe hX) hm,
    ha G H σ _ sl hk fun v G1 H1 s1 r1 => hb G1 H1 σ _ (sl.mono s1.le) s1.hk fun w G2 H2 s2 r2 => ⟨x, y, h1.dp s2.hk (r1.mono s2.le), h2.dp s2.hk r2, al, nn, sd, _, rfl, k G2 H2 (s1.trans s2)⟩⟩
theorem evr_minL {P : D → OW → Prop} {ds : List D} {x : PyData} {ps : List PyData} (hg : GlS F "min") (hm : F.mg "min" = none) (ha : EV F a Γ W (.ok (.lst ds)) W1) (h : Py W1 (.lst ds) (.list (x :: ps))) (hal : AlikeAll (x :: ps)) (hz : PyData.depthAll (x :: ps) ≤ 60)
    (hp : ∀ (i : Nat) (d : D), ds[i]? = some d → (x :: ps)[i]? = some (minD x ps) → P d W1) (he : ∀ env, starEach [a] env = (false, eval a env) :: starEach [] env := by intro _; rfl) : EVR F (.Call (.Name "min" p) [a] [] pos) Γ W P :=
  fun G H σ Q sl hk k => ⟨tCB (StepS.rMinD F.K) (cA F [a]), fun X hX => pe_callB (hX.K ▸ StepS.cr_minD hX.calm hX.un) (hX.gl hg) (by rw [hX.mg]; exact hm) (by decide +kernel) (cA_pa hX) (he := he _), (ea_cons ha ea_nil he) G H σ _ sl hk fun vs G1 H1 s1 r1 => by
    obtain ⟨v, rfl, r⟩ := r1.one
    obtain ⟨q, ws, rfl, e1, q1⟩ := r.lst_inv
    cases h with
    | lst hl hq =>
      refine ⟨q, ws, x, ps, rfl, SqL.of (s1.hk.sub q _ e1), dpAll_of (q1.1.trans hl) (fun i v p e1 e2 => ?_), hal, hz, fun i v hv hmin => ?_⟩
      · obtain ⟨d, e3, r3⟩ := q1.getV e1
        exact (hq i d p e3 e2).dp s1.hk r3
      · obtain ⟨d, e3, r3⟩ := q1.getV hv
        exact k d W1 v G1 H1 (hp i d e3 hmin) s1 r3⟩
theorem rps_rng (K : PySem.W.Frag) (G : Hp) (lo hi : Int) : Rps K G (rgV lo hi) (rngD lo (hi - lo).toNat) := by
  unfold rgV rngD
  refine ⟨by rw [List.length_map, List.length_map], fun i v d h1 h2 => ?_⟩
  rw [List.getElem?_map] at h1 h2
  cases e : (List.range (hi - lo).toNat)[i]? with
  | none => rw [e] at h1; cases h1
  | some j =>
    rw [e] at h1 h2
    cases h1
    cases h2
    exact .int _
theorem en_listRg2 {lo hi : Int} {p2 p3 : Pos} (hg : GlS F "list") (hm : F.mg "list" = none) (hg2 : GlS F "range") (hm2 : F.mg "range" = none) (ha : EV F a Γ W (.ok (.int lo)) W1) (hb : EV F b Γ W1 (.ok (.int hi)) W2) (hr : RgOk lo hi)
    (na : ∀ env, starEach [a, b] env = (false, eval a env) :: starEach [b] env := by intro _; rfl) (nb : ∀ env, starEach [b] env = (false, eval b env) :: starEach [] env := by intro _; rfl) (hp : ∀ env, (backTo p3 (starEach [b] env)).any (·.1) = false := by intro _; rfl)
    (nc : ∀ env, starEach [.Call (.Name "range" p2) [a, b] [] p3] env = (false, eval (.Call (.Name "range" p2) [a, b] [] p3) env) :: starEach [] env := by intro _; rfl) :
    EN F (.Call (.Name "list" p) [.Call (.Name "range" p2) [a, b] [] p3] [] pos) Γ W (rngD lo (hi - lo).toNat) W2 :=
  fun G H σ Q sl hk k => ⟨tLstRg (tRg2 (cE F a) (cE F b)), fun X hX => pe_listRg hX.calm (hX.gl hg) (by rw [hX.mg]; exact hm) (prg_2 (hX.gl hg2) (by rw [hX.mg]; exact hm2) (cE_pe hX) (cE_pe hX) (na _) (nb _) (hp _)) (nc _),
    ha G H σ _ sl hk fun v G1 H1 s1 r1 => hb G1 H1 σ _ (sl.mono s1.le) s1.hk fun w G2 H2 s2 r2 => ⟨lo, hi, r1.int_inv, r2.int_inv, hr, fun q hq => k q G2 _ (s1.back (s2.back hq)) ((s1.trans s2).trans (s2.hk.allocO hq (rps_rng _ _ _ _)))⟩⟩
theorem en_listRg1 {hi : Int} {p2 p3 : Pos} (hg : GlS F "list") (hm : F.mg "list" = none) (hg2 : GlS F "range") (hm2 : F.mg "range" = none) (ha : EV F a Γ W (.ok (.int hi)) W1) (hr : RgOk 0 hi)
    (na : ∀ env, starEach [a] env = (false, eval a env) :: starEach [] env := by intro _; rfl)
    (nc : ∀ env, starEach [.Call (.Name "range" p2) [a] [] p3] env = (false, eval (.Call (.Name "range" p2) [a] [] p3) env) :: starEach [] env := by intro _; rfl) :
    EN F (.Call (.Name "list" p) [.Call (.Name "range" p2) [a] [] p3] [] pos) Γ W (rngD 0 hi.toNat) W1 :=
  fun G H σ Q sl hk k => ⟨tLstRg (tRg1 (cE F a)), fun X hX => pe_listRg hX.calm (hX.gl hg) (by rw [hX.mg]; exact hm) (prg_1 (hX.gl hg2) (by rw [hX.mg]; exact hm2) (cE_pe hX) (na _)) (nc _),
    ha G H σ _ sl hk fun v G1 H1 s1 r1 => ⟨hi, r1.int_inv, hr, fun q hq => k q G1 _ (s1.back hq) (s1.trans (s1.hk.allocO hq (by have := rps_rng F.K G1 0 hi; rw [Int.sub_zero] at this; exact this)))⟩⟩
theorem ev_pow {i j : Int} (ha : EV F a Γ W (.ok (.int i)) W1) (hb : EV F b Γ W1 (.ok (.int j)) W2) (h : CPow i j) : EV F (.BinOp a .Pow b pos) Γ W (.ok (.int (i ^ j.toNat))) W2 :=
  ev_op (fun X _ => op_pow) ha hb fun G H x y Q hk rx ry k => ⟨i, j, rx.int_inv, ry.int_inv, h, k _ G H (.refl hk) (.int _)⟩
end
end Sh
set_option Elab.async false
set_option linter.all false
set_option maxRecDepth 100000
set_option maxHeartbeats 1000000
set_option autoImplicit false
/-! ShX: defs that give something owned (LawR), comprehensions and for's over such; slices of what is read. -/
namespace Sh
open PySem PySem.Spec PyProof.Rows L2
abbrev LawR := List D → OW → (D → OW → Prop) → Prop
def spOfR (K : PySem.W.Frag) (T : Tb) (S : LawR) : Sp := fun vs H Q E => ∃ G W ds Pp, Hk K T G W H ∧ Rps K G vs ds ∧ S ds W Pp ∧ ∀ d W' v G' H', Pp d W' → Step K T G W H G' W' H' → Rp K G' v d → Q v H'
def AEofR (Pp : D → OW → Prop) : AE where
  nx := fun _ W2 => ∃ W', Dn W2 W' ∧ Pp .non W'
  rt := fun d W2 => ∃ W', Dn W2 W' ∧ Pp d W'
section
variable {P : Program} {w : World} {K : PySem.W.Frag} {mg : Str → Option Value} {base : Heap} {T : Tb}
theorem fn_defR {x qual : Str} {st : Stmt} {f : Addr} {fd : FuncData} {N ps : List Str} {k : Nat} {S : LawR} (Fu : Fun K x qual st f fd) (Sc : FnScope N ps (defScope st)) (hl : ∀ ds W Pp, S ds W Pp → ds.length = ps.length)
    (body : ∀ (cl : List (Str × Addr)) (E : XK) (ds : List D) (W : OW) (Pp : D → OW → Prop), S ds W Pp → SS ⟨P, w, K, mg, base, N, defScope st, k, fd.code, E, T, qual ++ ".<locals>.", some cl⟩ (defBody st) (startG N ds) W (AEofR Pp)) :
    FnOk P w K mg base (L2.CX P w) (k + 1) f fd ps (spOfR K T S) := by
  obtain ⟨oc, od, kV, doc, pm, an, cdv, ct, osl, rfl, lk, hcd⟩ := Fu.ex
  refine fn_of lk hcd Sc (fun vs H Q E ⟨G, W, ds, Pp, hk, rs, hS, _⟩ => by rw [rs.1]; exact hl _ _ _ hS) fun A outer s H vs Q E hr ⟨G, W, ds, Pp, hk, rs, hS, hq⟩ => ?_
  obtain ⟨t, ht, q⟩ := body _ E ds W Pp hS G H (L2.start N vs) { nx := fun _ H' => Q .non H', rt := Q } (slots_start rs) hk
    ⟨fun Γ' W2 G' H' σ' ⟨W', dn, e⟩ st _ => hq _ W' _ G' H' e (dn.step st) .non,
      fun d W2 v G' H' ⟨W', dn, e⟩ st r => hq d W' v G' H' e (dn.step st) r,
      fun Γ' W2 G' H' σ' h => h.elim, fun Γ' W2 G' H' σ' h => h.elim,
      fun c W2 G' H' e st => e.elim⟩
  refine ⟨t, ht _ ⟨⟨rfl, rfl, rfl, rfl, rfl, rfl, rfl, rfl, hr, rfl, ?_, rfl, fun l e => Option.some.inj e, fun _ _ => ⟨rfl, rfl, takes_of rfl rfl rfl rfl⟩⟩, Sc.nd, fun _ => rfl, ?_, ?_, rfl, rfl⟩, q⟩
  · exact passes_call (X := cxOf (L2.CX P w) P w K mg base N qual (defScope st) f cdv A outer s H E) (takes_of rfl rfl rfl rfl) fun cls d σ H h => h
  · exact passes_of (X := cxOf (L2.CX P w) P w K mg base N qual (defScope st) f cdv A outer s H E) rfl
  · exact takes_of rfl rfl rfl rfl
structure FdR (P : Program) (w : World) (K : PySem.W.Frag) (mg : Str → Option Value) (base : Heap) (T : Tb) (x : Str) (k : Nat) (n : Nat) (S : LawR) : Prop where
  ex : ∃ (f : Addr) (fd : FuncData) (ps : List Str), mg x = some (.ref f) ∧ PySem.W.keepIn K (.ref f) = true ∧ Binds K fd ps [] ∧ ps.length = n ∧ FnOk P w K mg base (L2.CX P w) k f fd ps (spOfR K T S)
end
section
variable {F : CF} {Γ : Ga} {W W1 W2 W3 : OW} {pos p : Pos} {a b c e : Expr} {d d1 d2 d3 : D} {o : Out} {A : AE}
theorem evr_callR {x : Str} {k : Nat} {es : List Expr} {ds : List D} {S : LawR} {Wf Wr : OW} {P Pp : D → OW → Prop} (h : Sh.FdR F.P F.w F.K F.mg F.base F.T x k (e :: es).length S) (hkk : k ≤ F.k) (hg : GlS F x) (ha : EA F (e :: es) Γ W (.ok ds) W1) (hw : W1.Perm (Wf ++ Wr)) (hS : S ds Wf Pp) (hp : ∀ d Wf', Pp d Wf' → P d (Wf' ++ Wr))
    (hdb : (x == ("__debug__" : Str)) = false := by decide) (he : ∀ env, starEach (e :: es) env = (false, eval e env) :: starEach es env := by intro _; rfl) (hpl : ∀ env, (backTo pos (starEach es env)).any (·.1) = false := by intro _; rfl) : EVR F (.Call (.Name x p) (e :: es) [] pos) Γ W P := by
  obtain ⟨f, fd, ps, h1, h2, h3, h4, h5⟩ := h.ex
  refine fun G H σ Q sl hk kt => ⟨tCall (spOfR F.K F.T S) [] F.E (cA F (e :: es)), fun X hX => pe_call (FnOk.cast h5 hX.P hX.w hX.K hX.mg hX.base) (hX.room.mono hkk) (hX.gl hg) (by rw [hX.mg]; exact h1) (by rw [hX.K]; exact h2) (by rw [hX.K]; exact h3) .nil hX.pass (cA_pa hX) hdb (he _) (hpl _),
    ha G H σ _ sl hk fun vs G1 H1 s1 r1 => ?_⟩
  rw [List.append_nil]
  have hk2 := s1.hk.perm hw
  have back : ∀ {G' H' Wf'}, Step F.K F.T G1 Wf H1 G' Wf' H' → Step F.K F.T G W H G' (Wf' ++ Wr) H' := fun st => s1.trans ((st.more hk2).perm hw.symm (.refl _))
  exact ⟨G1, Wf, ds, Pp, hk2.less (List.sublist_append_left _ _), r1, hS, fun d Wf' v G' H' q st r => kt d _ v G' H' (hp d Wf' q) (back st) r⟩
/-- [e for x in l], what is owned grows -/
theorem evr_lcR {tg iter elt : Expr} {scope : Scope} {own : List (Str × Nat)} {ds : List D} {Wk : OW → Prop} {P : D → OW → Prop} (hN : F.N.Nodup) (ok : blkC F.N F.sc scope own = true) (hi : EI F tg iter Γ W ds Wk W1) (I : Nat → List D → OW → Prop) (h0 : I 0 [] W1) (hwk : ∀ i acc W', I i acc W' → Wk W' ∧ acc.length ≤ i)
    (hs : ∀ i d acc W', ds[i]? = some d → I i acc W' → ∃ Γ1 ts, EG (F.blk scope) (SatG (F.blk scope)) tg (wipeG Γ (own.map (·.2))) d Γ1 ts ∧ (∀ t ∈ ts, t ∈ own.map (·.2)) ∧ EVR (F.blk scope) elt Γ1 W' (fun y W2 => I (i + 1) (acc ++ [y]) W2)) (hz : ds.length < sizeLine)
    (hP : ∀ acc W' q, I ds.length acc W' → P (.ptr q) ((q, .lst acc) :: W')) (hf : ∀ env x, foldedSetIterable iter env x = pure x := by intro _ _; rfl) : EVR F (.ListComp elt [⟨tg, iter, [], 0⟩] scope pos) Γ W P := by
  refine fun G H σ Q sl hk k => ⟨tLc (cI F tg iter) (cG (SatG (F.blk scope)) tg) (cTs (F.blk scope) []) (cE (F.blk scope) elt) (own.map (·.2)), fun X hX => pe_lc hX.calm (by rw [hX.N]; exact hN) (cI_pi hX) (blkOk_by (by rw [hX.N, hX.sc]; exact ok))
      (fun s H C cl fp => cG_pg ⟨hX.blk scope s H C cl fp, by show X.N.Nodup; rw [hX.N]; exact hN⟩) (fun s H C cl fp => cTs_pts (hX.blk scope s H C cl fp)) (fun s H C cl fp => cE_pe (hX.blk scope s H C cl fp)) (hf _), ?_⟩
  generalize hvs : own.map (·.2) = vs at *
  refine hi G H σ _ sl hk fun J G1 H1 s1 wl D hD => ?_
  have s2 := s1.hk.allocO (w := .lst []) (o := .lst []) hD Rps.nil
  have hD0 := s1.back hD
  refine ⟨fun i m H' => m = ds.length - i ∧ i ≤ ds.length ∧ ∃ G' acc W', I i acc W' ∧ Step F.K F.T G W H G' (W' ++ [(D, .lst acc)]) H' ∧ Le G1 G', ⟨ds.length, by simp, Nat.zero_le _, G1, [], W1, h0, ?_, Le.refl _⟩, ?_⟩
  · refine (s1.trans s2).perm (List.Perm.refl _) ?_
    exact (List.perm_append_comm (l₁ := [(D, AO.lst [])]) (l₂ := W1))
  · rintro i m H' ⟨rfl, hil, G', acc, W', inv, st, le⟩
    obtain ⟨hw1, hlen⟩ := hwk i acc W' inv
    have hkW : Hk F.K F.T G' W' H' := st.hk.less (List.sublist_append_left _ _)
    obtain ⟨w1, w2⟩ := wl G' W' H' le hkW hw1 i
    by_cases hlt : i < ds.length
    · obtain ⟨go, w3⟩ := w1 ds[i] (List.getElem?_eq_getElem hlt)
      refine .inr ⟨go, fun H2 => ∃ G2 acc2 W2, I (i + 1) acc2 W2 ∧ Step F.K F.T G W H G2 (W2 ++ [(D, .lst acc2)]) H2 ∧ Le G1 G2, fun H2 q => ⟨ds.length - (i + 1), by omega, rfl, hlt, q⟩, fun x H2 y => ?_⟩
      obtain ⟨s3, y3⟩ := w3 x H2 y
      obtain ⟨Γ1, ts, hg, hts, hev⟩ := hs i ds[i] acc W' (List.getElem?_eq_getElem hlt) inv
      have st3 := st.trans (s3.more st.hk)
      refine hg G' H2 x (L2.wipe σ vs) _ ((sl.mono st.le).wipe vs) s3.hk.sub y3 fun σ2 sl2 bt => ⟨wipe_but bt hts, ?_⟩
      refine ets_nil G' H2 σ2 _ sl2 s3.hk fun G3 H3 s4 => ?_
      have st4 := st3.trans (s4.more st3.hk)
      rw [if_pos rfl]
      refine hev G3 H3 σ2 _ (sl2.mono s4.le) s4.hk fun y W2 v G4 H4 inv2 s5 rv => ?_
      have st5 := st4.trans (s5.more st4.hk)
      have hix : (W2 ++ [(D, AO.lst acc)])[W2.length]? = some (D, .lst acc) := by
        rw [List.getElem?_append_right (Nat.le_refl _), Nat.sub_self]
        rfl
      obtain ⟨_, ob, eo, ro⟩ := st5.hk.own _ (List.mem_of_getElem? hix)
      obtain ⟨ws, rfl, ro⟩ := ro.lst_inv
      refine ⟨ws, eo, by rw [ro.1]; omega, G4, _, W2, inv2, ?_, (le.trans s4.le).trans s5.le⟩
      have s6 := st5.hk.write (w' := .lst (acc ++ [y])) (o' := .lst (ws ++ [v])) hix (ro.snoc rv) (fun c q e => by
        have eo' : H4 D = some (.lst ws) := eo
        rw [eo'] at e
        cases e)
      have e6 : (W2 ++ [(D, AO.lst acc)]).set W2.length (D, .lst (acc ++ [y])) = W2 ++ [(D, .lst (acc ++ [y]))] := by
        rw [List.set_append_right _ _ (Nat.le_refl _), Nat.sub_self]
        rfl
      rw [e6] at s6
      exact st5.trans s6
    · have e : i = ds.length := by omega
      subst e
      exact .inl ⟨w2 (Nat.le_refl _), k _ _ _ G' H' (hP acc W' D inv) (st.perm (List.Perm.refl _) List.perm_append_comm) (.ptr D)⟩
/-- what a for goes over, told when it is known -/
def EIR (F : CF) (tg iter : Expr) (Γ : Ga) (W : OW) (Pp : List D → (OW → Prop) → OW → Prop) : Prop := ∀ (G H : Hp) (σ : L2.St) (R : It → Hp → Prop), Slots F.K G Γ σ → Hk F.K F.T G W H → (∀ J ds Wk W1 G' H', Pp ds Wk W1 → Step F.K F.T G W H G' W1 H' → Wlk F J G' Wk ds → R J H') → cI F tg iter σ H R
theorem eir_list {tg : Expr} {Pp : List D → (OW → Prop) → OW → Prop} (h : EVR F e Γ W (fun d W1 => ∃ ds, AsL W1 d ds ∧ Pp ds (fun W' => AsL W' d ds) W1)) : EIR F tg e Γ W Pp :=
  fun G H σ R sl hk k => ⟨iList F.K (cE F e), fun X hX => hX.K ▸ pi_list (cE_pe hX), h G H σ _ sl hk fun d W1 v G1 H1 ⟨ds, hd, hp⟩ s1 r1 => by
    obtain ⟨a, vs, rfl, e1, q1⟩ := hd.at s1.hk r1
    refine ⟨a, rfl, ⟨vs, SqL.of e1⟩, k _ ds _ W1 G1 H1 hp s1 fun G' W' H' le hk' wk i => ?_⟩
    obtain ⟨a', vs', ea, e2, q2⟩ := wk.at hk' (r1.mono le)
    cases ea
    refine ⟨fun d hd => ?_, fun hi => ⟨vs', SqL.of e2, by rw [q2.1]; exact hi⟩⟩
    obtain ⟨v, ev, rv⟩ := q2.get hd
    refine ⟨⟨vs', v, SqL.of e2, ev⟩, fun x H'' y => ?_⟩
    obtain ⟨rfl, y⟩ := y
    have := y vs' (SqL.of e2)
    rw [ev] at this
    cases this
    exact ⟨.refl hk', yp_of rv⟩⟩
theorem s1_forR {tg iter : Expr} {body : List Stmt} {Pp : List D → (OW → Prop) → OW → Prop} (hi : EIR F tg iter Γ W Pp) (hP : ∀ ds Wk W1, Pp ds Wk W1 → ∃ I : Nat → Ga → OW → Prop, I 0 Γ W1 ∧ (∀ i Γ' W', I i Γ' W' → Wk W') ∧
    (∀ i d Γ' W', ds[i]? = some d → I i Γ' W' → ∃ Γ'' ts, EG F (SatS F) tg Γ' d Γ'' ts ∧ SS F body Γ'' W' { A with nx := I (i + 1), ct := I (i + 1), bk := A.nx }) ∧ (∀ Γ' W', I ds.length Γ' W' → A.nx Γ' W')) (hf : ∀ env x, foldedSetIterable iter env x = pure x := by intro _ _; rfl) : S1 F (.For tg iter body [] pos) Γ W A :=
  fun G H σ De sl hk k => ⟨tFor (cI F tg iter) (cG (SatS F) tg) (cSs F body), fun X hX => ps_for hX.own hX.calm (cI_pi hX.toSat) (cG_pg hX) (cSs_pss hX) (hf _), hi G H σ _ sl hk fun J ds Wk W1 G1 H1 hp s1 wl => by
    obtain ⟨I, h0, hk', hs, hd⟩ := hP ds Wk W1 hp
    refine ⟨fun i m σ' H' => m = ds.length - i ∧ i ≤ ds.length ∧ ∃ Γ' W' G', Step F.K F.T G1 W1 H1 G' W' H' ∧ Slots F.K G' Γ' σ' ∧ I i Γ' W', ⟨ds.length, by simp, Nat.zero_le _, Γ, W1, G1, .refl s1.hk, sl.mono s1.le, h0⟩, ?_⟩
    rintro i m σ' H' ⟨rfl, hil, Γ', W', G', st, sl', inv⟩
    obtain ⟨w1, w2⟩ := wl G' W' H' st.le st.hk (hk' i Γ' W' inv) i
    by_cases hlt : i < ds.length
    · obtain ⟨go, w3⟩ := w1 ds[i] (List.getElem?_eq_getElem hlt)
      refine .inr ⟨go, fun σ2 H2 => ∃ Γ2 W2 G2, Step F.K F.T G1 W1 H1 G2 W2 H2 ∧ Slots F.K G2 Γ2 σ2 ∧ I (i + 1) Γ2 W2, fun σ2 H2 q => ⟨ds.length - (i + 1), by omega, rfl, hlt, q⟩, fun x H'' y => ?_⟩
      obtain ⟨s2, y2⟩ := w3 x H'' y
      obtain ⟨Γ'', ts, hg, hb⟩ := hs i ds[i] Γ' W' (List.getElem?_eq_getElem hlt) inv
      refine hg G' H'' x σ' _ sl' s2.hk.sub y2 fun σ3 sl3 _ => ?_
      refine hb G' H'' σ3 _ sl3 s2.hk ⟨fun Γ4 W4 G4 H4 σ4 h4 t4 sl4 => ⟨Γ4, W4, G4, (st.trans s2).trans t4, sl4, h4⟩, fun d W4 v G4 H4 h4 t4 r4 => k.rt d W4 v G4 H4 h4 (s1.trans ((st.trans s2).trans t4)) r4, fun Γ4 W4 G4 H4 σ4 h4 t4 sl4 => k.nx Γ4 W4 G4 H4 σ4 h4 (s1.trans ((st.trans s2).trans t4)) sl4,
        fun Γ4 W4 G4 H4 σ4 h4 t4 sl4 => ⟨Γ4, W4, G4, (st.trans s2).trans t4, sl4, h4⟩, fun c W4 G4 H4 h4 t4 => k.er c W4 G4 H4 h4 (s1.trans ((st.trans s2).trans t4))⟩
    · have e : i = ds.length := by omega
      subst e
      exact .inl ⟨w2 (Nat.le_refl _), k.nx Γ' W' G' H' σ' (hd Γ' W' inv) (s1.trans st) sl'⟩⟩
/-- a list that stands for good: the script's -/
def Stands (K : PySem.W.Frag) (T : Tb) (a : Addr) (xs : List V) (W : OW) : Prop := ∀ G H, Hk K T G W H → SqL K H a xs
theorem en_sliceV {lo hi : Option Expr} {l h' : Option Int} {p2 : Pos} {q : Addr} {ns : List Int} (he : EV F e Γ W (.ok (.ptr q)) W1) (hl : EO F lo Γ W1 l W2) (hh : EO F hi Γ W2 h' W3) (hS : Stands F.K F.T q (ns.map V.int) W3) : EN F (.Subscript e (.Slice lo hi none p2) pos) Γ W ((cutD ns l h').map D.int) W3 :=
  fun G H σ Q sl hk k => ⟨tSl (rSlL F.K) (cE F e) (cO F lo) (cO F hi), fun X hX => pe_slice (hX.K ▸ sl_list) (cE_pe hX) (cO_po hX) (cO_po hX),
    he G H σ _ sl hk fun x G1 H1 s1 r1 => hl G1 H1 σ _ (sl.mono s1.le) s1.hk fun G2 H2 s2 => hh G2 H2 σ _ (sl.mono (s1.le.trans s2.le)) s2.hk fun G3 H3 s3 => by
      obtain rfl := r1.ptr_inv
      refine ⟨q, _, rfl, hS G3 H3 s3.hk, fun z hz => k z G3 _ (s1.back (s2.back (s3.back hz))) (((s1.trans s2).trans s3).trans (s3.hk.allocO hz ?_))⟩
      have e1 : cutV (ns.map V.int) l h' = (cutD ns l h').map V.int := by
        unfold cutV cutD
        rw [List.length_map, List.map_take, List.map_drop]
      rw [e1]
      exact Rps.of_ints _⟩
end
end Sh
set_option Elab.async false
set_option linter.all false
set_option maxRecDepth 100000
set_option maxHeartbeats 1000000
set_option autoImplicit false
/-! ShY: dict(pairs), dict displays, what is looked up in new dicts. -/
namespace Sh
open PySem PySem.Spec PyProof.Rows L2
section
variable {F : CF} {Γ : Ga} {W W1 W2 W3 : OW} {pos p : Pos} {a b c e : Expr} {d d1 d2 d3 : D} {o : Out} {A : AE}
def pairD (kd : Key × D) : D := .tup [kD kd.1, kd.2]
theorem rps_pairs {K : PySem.W.Frag} {T : Tb} {G H : Hp} {W : OW} (hk : Hk K T G W H) : ∀ {ks : List (Key × D)} {vs : List V}, Rps K G vs (ks.map pairD) → ∃ (ps : List Addr) (kvs : List (Key × V)), vs = ps.map V.ref ∧ Paired (fun p kv => SqT K H p [kV kv.1, kv.2]) ps kvs ∧ Rpk K G kvs ks
  | [], vs, h => by
    rw [h.inv0]
    exact ⟨[], [], rfl, .nil, .nil⟩
  | (k, d) :: ks, vs, h => by
    rw [List.map_cons] at h
    obtain ⟨v, vs', rfl, h1, h2⟩ := h.inv
    obtain ⟨ps, kvs, rfl, h3, h4⟩ := rps_pairs hk h2
    obtain ⟨a, ws, rfl, e1, q1⟩ := h1.tup_inv
    obtain ⟨u, w, rfl, r1, r2⟩ := q1.two
    refine ⟨a :: ps, (k, w) :: kvs, rfl, .cons ?_ h3, h4.cons r2⟩
    have := sqt_up hk e1
    rw [r1.key_inv] at this
    exact this
theorem Rpk.merge {K : PySem.W.Frag} {G : Hp} : ∀ {ks : List (Key × D)} {kvs : List (Key × V)} {acc : List (Key × V)} {da : List (Key × D)}, Rpk K G kvs ks → Rpk K G acc da → Rpk K G (mergeK acc kvs) (ks.foldl (fun a kd => putD a kd.1 kd.2) da)
  | [], kvs, acc, da, h, h2 => by
    rw [h.inv0]
    exact h2
  | (k, d) :: ks, kvs, acc, da, h, h2 => by
    obtain ⟨v, vs, rfl, r, t⟩ := h.inv
    show Rpk K G (mergeK (putK acc k v) vs) (ks.foldl (fun a kd => putD a kd.1 kd.2) (putD da k d))
    exact Rpk.merge t (h2.put r)
def mergeD (ks : List (Key × D)) : List (Key × D) := ks.foldl (fun a kd => putD a kd.1 kd.2) []
/-- dict(pairs) -/
theorem end_dictP {ks : List (Key × D)} (hg : GlS F "dict") (hm : F.mg "dict" = none) (ha : EV F a Γ W (.ok d) W1) (h : AsL W1 d (ks.map pairD)) (he : ∀ env, starEach [a] env = (false, eval a env) :: starEach [] env := by intro _; rfl) : END F (.Call (.Name "dict" p) [a] [] pos) Γ W (mergeD ks) W1 :=
  fun G H σ Q sl hk k => ⟨tCB (fun xs H Q => ∃ (a : Addr) (ps : List Addr) (kvs : List (Key × V)), xs = [.ref a] ∧ SqL F.K H a (ps.map V.ref) ∧ Paired (fun p kv => SqT F.K H p [kV kv.1, kv.2]) ps kvs ∧ ∀ p, H p = none → Q (.ref p) (upd H p (.dK (mergeK [] kvs)))) (cA F [a]),
    fun X hX => pe_callTy (hX.K ▸ call_dictP hX.calm) (hX.gl hg) (by rw [hX.mg]; exact hm) (by decide +kernel) (cA_pa hX) (he := he _), (ea_cons ha ea_nil he) G H σ _ sl hk fun vs G1 H1 s1 r1 => by
      obtain ⟨v, rfl, r⟩ := r1.one
      obtain ⟨q, ws, rfl, e1, q1⟩ := h.at s1.hk r
      obtain ⟨ps, kvs, rfl, h3, h4⟩ := rps_pairs s1.hk q1
      exact ⟨q, ps, kvs, rfl, SqL.of e1, h3, fun z hz => k z G1 _ (s1.back hz) (s1.trans (s1.hk.allocO hz (show RO F.K G1 (.dK _) (.dK _) from h4.merge .nil)))⟩⟩
/-- pairs of a display -/
def EPs (F : CF) (es : List (Expr × Expr)) (Γ : Ga) (W : OW) (ks : List (Key × D)) (W' : OW) : Prop := ∀ (G H : Hp) (σ : L2.St) (Q : List (V × V) → Hp → Prop), Slots F.K G Γ σ → Hk F.K F.T G W H →
  (∀ kvs G' H', Step F.K F.T G W H G' W' H' → Rpk F.K G' kvs ks → Q (kvs.map fun kv => (kV kv.1, kv.2)) H') → tPairs (es.map fun kv => (cE F kv.1, cE F kv.2)) σ H Q
theorem eps_nil : EPs F [] Γ W [] W := fun G H σ Q sl hk k => k [] G H (.refl hk) .nil
theorem eps_cons {q : Key} {es : List (Expr × Expr)} {ks : List (Key × D)} (ha : EV F a Γ W (.ok (kD q)) W1) (hb : EV F b Γ W1 (.ok d) W2) (hr : EPs F es Γ W2 ks W3) : EPs F ((a, b) :: es) Γ W ((q, d) :: ks) W3 :=
  fun G H σ Q sl hk k => ha G H σ _ sl hk fun u G1 H1 s1 r1 => hb G1 H1 σ _ (sl.mono s1.le) s1.hk fun v G2 H2 s2 r2 => hr G2 H2 σ _ (sl.mono (s1.le.trans s2.le)) s2.hk fun kvs G3 H3 s3 r3 => by
    have := k ((q, v) :: kvs) G3 H3 ((s1.trans s2).trans s3) (r3.cons (r2.mono s3.le))
    rw [r1.key_inv]
    exact this
theorem pps_of {X : Cx} (hX : Sat F X) {pos : Pos} : ∀ es : List (Expr × Expr), PPs X pos (es.map fun kv => some kv.1) (es.map (·.2)) (es.map fun kv => (cE F kv.1, cE F kv.2))
  | [] => pps_nil
  | (a, b) :: es => pps_cons (cE_pe hX) (cE_pe hX) (pps_of hX es)
theorem end_disp {es : List (Expr × Expr)} {keys : List (Option Expr)} {values : List Expr} {ks : List (Key × D)} (hks : keys = es.map (fun kv => some kv.1)) (hvs : values = es.map (·.2)) (h : ∀ q, EPs F es Γ ((q, .dK []) :: W) ks ((q, .dK []) :: W1)) (h0 : es ≠ []) (h15 : es.length ≤ 15) (hl : ks.length ≤ 15) : END F (.Dict keys values pos) Γ W (mergeD ks) W1 :=
  fun G H σ Q sl hk k => ⟨tDisp (es.map fun kv => (cE F kv.1, cE F kv.2)), fun X hX => by
      subst hks hvs
      exact pe_disp (pps_of hX es) (by simp) (by rw [List.length_map, List.length_map]) (fun z => h0 (List.map_eq_nil_iff.mp z)) (by rw [List.length_map]; exact h15), fun q hq => by
    have st := hk.allocO (w := .dK []) (o := .dK []) hq Rpk.nil
    refine h q G _ σ _ sl st.hk fun kvs G' H' s r => ?_
    obtain ⟨gq, ob, eo, ro⟩ := s.hk.own (q, .dK []) List.mem_cons_self
    obtain ⟨ws, rfl, ro⟩ := ro.dK_inv
    obtain rfl := ro.inv0
    have eo' : H' q = some (.dK []) := eo
    refine ⟨eo', kvs, rfl, by rw [Rpk.len r]; exact hl, k q G' _ hq ((st.trans s).trans (s.hk.write (i := 0) (w' := .dK (mergeD ks)) (o' := .dK (mergeK [] kvs)) rfl (show RO F.K G' (.dK _) (.dK _) from r.merge .nil) fun c z e' => ?_))⟩
    rw [eo'] at e'
    cases e'⟩
/-- d[k], d new -/
theorem ev_dgetN {ds : List (Key × D)} {q : Key} (ha : END F a Γ W ds W1) (hb : ∀ p, EV F b Γ ((p, .dK ds) :: W1) (.ok (kD q)) ((p, .dK ds) :: W1)) (e : valD ds q = some d) (hs : NoSl b := by exact fun _ _ => rfl) : EV F (.Subscript a b pos) Γ W (.ok d) W1 :=
  fun G H σ Q sl hk k => ⟨tDGet (cE F a) (cE F b), fun X hX => pe_dget (by have := hX.un; omega) (cE_pe hX) (cE_pe hX) hs,
    ha G H σ _ sl hk fun p G1 H1 hp s1 => hb p G1 H1 σ _ (sl.mono s1.le) s1.hk fun y G2 H2 s2 r2 => by
      obtain ⟨gq, ob, eo, ro⟩ := s2.hk.own (p, .dK ds) List.mem_cons_self
      obtain ⟨kvs, rfl, ro⟩ := ro.dK_inv
      have eo' : H2 p = some (.dK kvs) := eo
      rcases Rpk.val q ro with ⟨z, _⟩ | ⟨d', v, z1, z2, r⟩
      · rw [e] at z
        cases z
      · rw [e] at z1
        cases z1
        refine ⟨p, v, rfl, ?_, k _ G2 H2 ((s1.trans s2).drop (List.sublist_cons_self _ _)) r⟩
        rw [r2.key_inv, ← z2]
        exact .inl ⟨kvs, q, .inl eo', rfl, rfl⟩⟩
end
end Sh
set_option Elab.async false
set_option linter.all false
set_option maxRecDepth 100000
set_option maxHeartbeats 1000000
set_option autoImplicit false
/-! ShZ: comprehensions whose own names are cells (an inner comprehension reads them). -/
namespace Sh
open PySem PySem.Spec PyProof.Rows L2
structure SatB (F : CF) (scope : Scope) (X : Cx) : Prop extends SatG F X where
  cel : ∀ x, scope.names.lookup x = some .cell → X.fn x = true
section
variable {F : CF} {Γ : Ga} {W W1 W2 W3 : OW} {pos : Pos} {a b c e : Expr} {d d1 d2 d3 : D} {o : Out} {A : AE}
def Turn1S (F : CF) (S : Cx → Prop) (tg : Expr) (ifs : List Expr) (elt : Expr) (vs : List Nat) (Γ0 : Ga) (d : D) (W : OW) (acc : List D) (W' : OW) (acc' : List D) : Prop :=
  ∃ Γ1 ts, EG F S tg Γ0 d Γ1 ts ∧ (∀ t ∈ ts, t ∈ vs) ∧ ∃ r W1, ETs F ifs Γ1 W r W1 ∧ (r = true → ∃ y, EV F elt Γ1 W1 (.ok y) W' ∧ acc' = acc ++ [y]) ∧ (r = false → W1 = W' ∧ acc' = acc)
theorem lc_readS {S : Cx → Prop} {tg iter elt : Expr} {ifs : List Expr} {scope : Scope} {vs : List Nat} {ds : List D} {Wk : OW → Prop} (hi : EI F tg iter Γ W ds Wk W1) (acc : Nat → List D) (Ws : Nat → OW) (h0 : acc 0 = []) (hW0 : Ws 0 = W1) (hwk : ∀ i, i ≤ ds.length → Wk (Ws i))
    (hs : ∀ i d, ds[i]? = some d → Turn1S (F.blk scope) S tg ifs elt vs (wipeG Γ vs) d (Ws i) (acc i) (Ws (i + 1)) (acc (i + 1))) (hz : ds.length < sizeLine) {G H : Hp} {σ : L2.St} {Q : VK} (sl : Slots F.K G Γ σ) (hk : Hk F.K F.T G W H)
    (k : ∀ p G' H', H p = none → Step F.K F.T G W H G' ((p, .lst (acc ds.length)) :: Ws ds.length) H' → Q (.ref p) H') : tLc (cI F tg iter) (cG S tg) (cTs (F.blk scope) ifs) (cE (F.blk scope) elt) vs σ H Q := by
  have hacc : ∀ i, i ≤ ds.length → (acc i).length ≤ i := by
    intro i
    induction i with
    | zero => intro _; rw [h0]; exact Nat.le_refl _
    | succ i ih =>
      intro hi'
      obtain ⟨Γ1, ts, _, _, r, Wx, _, h1, h2⟩ := hs i ds[i] (List.getElem?_eq_getElem hi')
      have := ih (by omega)
      cases r with
      | true =>
        obtain ⟨y, _, e⟩ := h1 rfl
        rw [e, List.length_append, List.length_singleton]
        omega
      | false =>
        rw [(h2 rfl).2]
        omega
  refine hi G H σ _ sl hk fun J G1 H1 s1 wl D hD => ?_
  have s2 := s1.hk.allocO (w := .lst []) (o := .lst []) hD Rps.nil
  have hD0 := s1.back hD
  refine ⟨fun i m H' => m = ds.length - i ∧ i ≤ ds.length ∧ ∃ G', Step F.K F.T G W H G' (Ws i ++ [(D, .lst (acc i))]) H' ∧ Le G1 G', ⟨ds.length, by simp, Nat.zero_le _, G1, ?_, Le.refl _⟩, ?_⟩
  · rw [h0, hW0]
    refine (s1.trans s2).perm (List.Perm.refl _) ?_
    exact (List.perm_append_comm (l₁ := [(D, AO.lst [])]) (l₂ := W1))
  · rintro i m H' ⟨rfl, hil, G', st, le⟩
    have hkW : Hk F.K F.T G' (Ws i) H' := st.hk.less (List.sublist_append_left _ _)
    obtain ⟨w1, w2⟩ := wl G' (Ws i) H' le hkW (hwk i hil) i
    by_cases hlt : i < ds.length
    · obtain ⟨go, w3⟩ := w1 ds[i] (List.getElem?_eq_getElem hlt)
      refine .inr ⟨go, fun H2 => ∃ G2, Step F.K F.T G W H G2 (Ws (i + 1) ++ [(D, .lst (acc (i + 1)))]) H2 ∧ Le G1 G2, fun H2 q => ⟨ds.length - (i + 1), by omega, rfl, hlt, q⟩, fun x H2 y => ?_⟩
      obtain ⟨s3, y3⟩ := w3 x H2 y
      obtain ⟨Γ1, ts, hg, hts, r, Wx, ht, h1, h2⟩ := hs i ds[i] (List.getElem?_eq_getElem hlt)
      have st3 := st.trans (s3.more st.hk)
      refine hg G' H2 x (L2.wipe σ vs) _ ((sl.mono st.le).wipe vs) s3.hk.sub y3 fun σ2 sl2 bt => ⟨wipe_but bt hts, ?_⟩
      refine ht G' H2 σ2 _ sl2 s3.hk fun G3 H3 s4 => ?_
      have st4 := st3.trans (s4.more st3.hk)
      cases r with
      | true =>
        rw [if_pos rfl]
        obtain ⟨y, he, ea⟩ := h1 rfl
        refine he G3 H3 σ2 _ (sl2.mono s4.le) s4.hk fun v G4 H4 s5 rv => ?_
        have st5 := st4.trans (s5.more st4.hk)
        have hix : (Ws (i + 1) ++ [(D, AO.lst (acc i))])[(Ws (i + 1)).length]? = some (D, .lst (acc i)) := by
          rw [List.getElem?_append_right (Nat.le_refl _), Nat.sub_self]
          rfl
        obtain ⟨_, ob, eo, ro⟩ := st5.hk.own _ (List.mem_of_getElem? hix)
        obtain ⟨ws, rfl, ro⟩ := ro.lst_inv
        have hlen := hacc i hil
        refine ⟨ws, eo, by rw [ro.1]; omega, G4, ?_, (le.trans s4.le).trans s5.le⟩
        have s6 := st5.hk.write (w' := .lst (acc (i + 1))) (o' := .lst (ws ++ [v])) hix (by rw [ea]; exact ro.snoc rv) (fun c q e => by
          have eo' : H4 D = some (.lst ws) := eo
          rw [eo'] at e
          cases e)
        have e6 : (Ws (i + 1) ++ [(D, AO.lst (acc i))]).set (Ws (i + 1)).length (D, .lst (acc (i + 1))) = Ws (i + 1) ++ [(D, .lst (acc (i + 1)))] := by
          rw [List.set_append_right _ _ (Nat.le_refl _), Nat.sub_self]
          rfl
        rw [e6] at s6
        exact st5.trans s6
      | false =>
        rw [if_neg Bool.false_ne_true]
        obtain ⟨e1, e2⟩ := h2 rfl
        subst e1
        rw [e2]
        exact ⟨G3, st4, le.trans s4.le⟩
    · have e : i = ds.length := by omega
      subst e
      exact .inl ⟨w2 (Nat.le_refl _), k D G' H' hD0 (st.perm (List.Perm.refl _) List.perm_append_comm)⟩
theorem sat_b {scope : Scope} {X : Cx} (hX : Sat F X) (hN : F.N.Nodup) (s : Shared) (H : Hp) (C : Addr) (cl : List (Str × Addr)) (fp : List Addr) : SatB (F.blk scope) scope (X.blk s H scope (compEnvC scope cl C X.env) fp) :=
  ⟨⟨hX.blk scope s H C cl fp, by show X.N.Nodup; rw [hX.N]; exact hN⟩, fun x h => by show (scope.names.lookup x == some .cell) = true; rw [h]; rfl⟩
theorem en_lcS {tg iter elt : Expr} {ifs : List Expr} {scope : Scope} {own : List (Str × Nat)} {ds : List D} {Wk : OW → Prop} (hN : F.N.Nodup) (ok : blkC F.N F.sc scope own = true) (hi : EI F tg iter Γ W ds Wk W1) (acc : Nat → List D) (Ws : Nat → OW) (h0 : acc 0 = []) (hW0 : Ws 0 = W1) (hwk : ∀ i, i ≤ ds.length → Wk (Ws i))
    (hs : ∀ i d, ds[i]? = some d → Turn1S (F.blk scope) (SatB (F.blk scope) scope) tg ifs elt (own.map (·.2)) (wipeG Γ (own.map (·.2))) d (Ws i) (acc i) (Ws (i + 1)) (acc (i + 1))) (hz : ds.length < sizeLine) (hf : ∀ env x, foldedSetIterable iter env x = pure x := by intro _ _; rfl) :
    EN F (.ListComp elt [⟨tg, iter, ifs, 0⟩] scope pos) Γ W (acc ds.length) (Ws ds.length) :=
  fun G H σ Q sl hk k => ⟨tLc (cI F tg iter) (cG (SatB (F.blk scope) scope) tg) (cTs (F.blk scope) ifs) (cE (F.blk scope) elt) (own.map (·.2)), fun X hX => pe_lc hX.calm (by rw [hX.N]; exact hN) (cI_pi hX) (blkOk_by (by rw [hX.N, hX.sc]; exact ok))
      (fun s H C cl fp => cG_pg (sat_b hX hN s H C cl fp)) (fun s H C cl fp => cTs_pts (hX.blk scope s H C cl fp)) (fun s H C cl fp => cE_pe (hX.blk scope s H C cl fp)) (hf _),
    lc_readS hi acc Ws h0 hW0 hwk hs hz sl hk k⟩
/-- one turn: the item's image, or none -/
def TurnS (F : CF) (S : Cx → Prop) (tg : Expr) (ifs : List Expr) (elt : Expr) (vs : List Nat) (Γ0 : Ga) (W : OW) (d : D) (y : Option D) : Prop :=
  ∃ Γ1 ts, EG F S tg Γ0 d Γ1 ts ∧ (∀ t ∈ ts, t ∈ vs) ∧ ∃ r, ETs F ifs Γ1 W r W ∧ (r = true → ∃ z, EV F elt Γ1 W (.ok z) W ∧ y = some z) ∧ (r = false → y = none)
theorem TurnS.one {S : Cx → Prop} {tg elt : Expr} {ifs : List Expr} {ds : List D} {vs : List Nat} {Γ0 : Ga} {d : D} {y : Option D} {i : Nat} (h : TurnS F S tg ifs elt vs Γ0 W d y) (hd : ds[i]? = some d) (f : D → Option D) (e : f d = y) : Turn1S F S tg ifs elt vs Γ0 d W ((ds.take i).filterMap f) W ((ds.take (i + 1)).filterMap f) := by
  obtain ⟨Γ1, ts, h1, h2, r, h3, h4, h5⟩ := h
  have et : (ds.take (i + 1)).filterMap f = (ds.take i).filterMap f ++ (f d).toList := by
    rw [List.take_add_one, hd, List.filterMap_append]
    cases e2 : f d with
    | none => simp [List.filterMap_cons, e2]
    | some z => simp [List.filterMap_cons, e2]
  refine ⟨Γ1, ts, h1, h2, r, W, h3, fun q => ?_, fun q => ⟨rfl, ?_⟩⟩
  · obtain ⟨z, h6, h7⟩ := h4 q
    exact ⟨z, h6, by rw [et, e, h7]; rfl⟩
  · rw [et, e, h5 q]
    exact List.append_nil _
theorem turnS_map {S : Cx → Prop} {tg elt : Expr} {vs : List Nat} {Γ0 Γ1 : Ga} {d z : D} {ts : List Nat} (h1 : EG F S tg Γ0 d Γ1 ts) (h2 : ∀ t ∈ ts, t ∈ vs) (h3 : EV F elt Γ1 W (.ok z) W) : TurnS F S tg [] elt vs Γ0 W d (some z) :=
  ⟨Γ1, ts, h1, h2, true, ets_nil, fun _ => ⟨z, h3, rfl⟩, fun q => by cases q⟩
theorem turnS_if {S : Cx → Prop} {tg elt : Expr} {vs : List Nat} {Γ0 Γ1 : Ga} {d z : D} {ts : List Nat} {c : Expr} {r : Bool} (h1 : EG F S tg Γ0 d Γ1 ts) (h2 : ∀ t ∈ ts, t ∈ vs) (hc : ET F c Γ1 W (.ok r) W) (h3 : r = true → EV F elt Γ1 W (.ok z) W) : TurnS F S tg [c] elt vs Γ0 W d (if r then some z else none) :=
  ⟨Γ1, ts, h1, h2, r, ets_one hc, fun q => ⟨z, h3 q, by rw [q]; rfl⟩, fun q => by rw [q]; rfl⟩
/-- .. own names are cells, some of them -/
theorem en_lcFB {tg iter elt : Expr} {ifs : List Expr} {scope : Scope} {own : List (Str × Nat)} {ds : List D} {Wk : OW → Prop} (f : D → Option D) (hN : F.N.Nodup) (ok : blkC F.N F.sc scope own = true) (hi : EI F tg iter Γ W ds Wk W1) (hwk : Wk W1) (hs : ∀ d ∈ ds, TurnS (F.blk scope) (SatB (F.blk scope) scope) tg ifs elt (own.map (·.2)) (wipeG Γ (own.map (·.2))) W1 d (f d)) (hz : ds.length < sizeLine) (hf : ∀ env x, foldedSetIterable iter env x = pure x := by intro _ _; rfl) :
    EN F (.ListComp elt [⟨tg, iter, ifs, 0⟩] scope pos) Γ W (ds.filterMap f) W1 := by
  have := en_lcS (pos := pos) hN ok hi (fun i => (ds.take i).filterMap f) (fun _ => W1) rfl rfl (fun _ _ => hwk) (fun i d hd => (hs d (List.mem_of_getElem? hd)).one hd f rfl) hz hf
  rw [List.take_length] at this
  exact this
theorem en_lcMB {tg iter elt : Expr} {ifs : List Expr} {scope : Scope} {own : List (Str × Nat)} {ds : List D} {Wk : OW → Prop} (g : D → D) (hN : F.N.Nodup) (ok : blkC F.N F.sc scope own = true) (hi : EI F tg iter Γ W ds Wk W1) (hwk : Wk W1) (hs : ∀ d ∈ ds, TurnS (F.blk scope) (SatB (F.blk scope) scope) tg ifs elt (own.map (·.2)) (wipeG Γ (own.map (·.2))) W1 d (some (g d))) (hz : ds.length < sizeLine) (hf : ∀ env x, foldedSetIterable iter env x = pure x := by intro _ _; rfl) :
    EN F (.ListComp elt [⟨tg, iter, ifs, 0⟩] scope pos) Γ W (ds.map g) W1 :=
  (en_lcFB (fun d => some (g d)) hN ok hi hwk hs hz hf).to (by simp [List.filterMap_eq_map])
/-- a name of the block, a cell -/
theorem eg_cell {scope : Scope} (i : Nat) {x : Str} (hi : F.N[i]? = some x) (hx : F.sc.names.lookup x = some .cell) (hs : scope.names.lookup x = some .cell) (hd : ∀ ds, d = .pr ds → False := by intro _ h; cases h) : EG F (SatB F scope) (.Name x pos) Γ d (Γ.set i (some d)) [i] :=
  eg_name (fun X h => h.toSatG) i hi (.inr ⟨hx, fun X h => h.cel x hs⟩) hd
end
end Sh
set_option Elab.async false
set_option linter.all false
set_option maxRecDepth 100000
set_option maxHeartbeats 1000000
set_option autoImplicit false
/-! ShZa: x = [..] on one line, own names cells. -/
namespace Sh
open PySem PySem.Spec PyProof.Rows L2
section
variable {F : CF} {Γ : Ga} {W W1 : OW} {pos : Pos} {A : AE}
theorem s1_setLcS (j : Nat) {y : Str} {py spos : Pos} {tg iter elt : Expr} {ifs : List Expr} {scope : Scope} {own : List (Str × Nat)} {ds : List D} {Wk : OW → Prop} (hN : F.N.Nodup) (hj : F.N[j]? = some y) (hy : F.sc.names.lookup y = some .local) (hkd : F.sc.kind = .function) (hl : (py.line == pos.line) = true)
    (hnm : (scope.names.any fun (n, k) => n == y && (k == .local || k == .cell)) = false) (ok : blkC F.N F.sc scope own = true) (hi : EI F tg iter Γ W ds Wk W1) (acc : Nat → List D) (Ws : Nat → OW) (h0 : acc 0 = []) (hW0 : Ws 0 = W1) (hwk : ∀ i, i ≤ ds.length → Wk (Ws i))
    (hs : ∀ i d, ds[i]? = some d → Turn1S (F.blk scope) (SatB (F.blk scope) scope) tg ifs elt (own.map (·.2)) (wipeG Γ (own.map (·.2))) d (Ws i) (acc i) (Ws (i + 1)) (acc (i + 1))) (hz : ds.length < sizeLine)
    (hA : ∀ q, A.nx (Γ.set j (some (.ptr q))) ((q, .lst (acc ds.length)) :: Ws ds.length)) (hf : ∀ env x, foldedSetIterable iter env x = pure x := by intro _ _; rfl) :
    S1 F (.Assign [.Name y py] (.ListComp elt [⟨tg, iter, ifs, 0⟩] scope pos) spos) Γ W A :=
  fun G H σ De sl hk k => ⟨tAsg (tLc (cI F tg iter) (cG (SatB (F.blk scope) scope) tg) (cTs (F.blk scope) ifs) (cE (F.blk scope) elt) (List.map (fun z : Str × Nat => z.2) own)) (gName j), fun X hX => ps_setLc hX.calm hX.nd (by rw [hX.N]; exact hj) (by rw [hX.sc]; exact hy) (sw_true (by rw [hX.sc]; exact hkd) (by rw [hX.sc]; exact hy) hl hnm) (cI_pi hX.toSat) (blkOk_by (by rw [hX.N, hX.sc]; exact ok))
      (fun s H C cl fp => cG_pg (sat_b hX.toSat hN s H C cl fp)) (fun s H C cl fp => cTs_pts (hX.toSat.blk scope s H C cl fp)) (fun s H C cl fp => cE_pe (hX.toSat.blk scope s H C cl fp)) (hf _),
    lc_readS (Q := fun x H1 => gName j x σ H1 De.nx) hi acc Ws h0 hW0 hwk hs hz sl hk fun q G' H' _ s => k.nx _ _ G' H' _ (hA q) s ((sl.mono s.le).put j (.ptr q))⟩
theorem s1_setLcFB (j : Nat) (f : D → Option D) {y : Str} {py spos : Pos} {tg iter elt : Expr} {ifs : List Expr} {scope : Scope} {own : List (Str × Nat)} {ds : List D} {Wk : OW → Prop} (hN : F.N.Nodup) (hj : F.N[j]? = some y) (hy : F.sc.names.lookup y = some .local) (hkd : F.sc.kind = .function) (hl : (py.line == pos.line) = true)
    (hnm : (scope.names.any fun (n, k) => n == y && (k == .local || k == .cell)) = false) (ok : blkC F.N F.sc scope own = true) (hi : EI F tg iter Γ W ds Wk W1) (hwk : Wk W1) (hs : ∀ d ∈ ds, TurnS (F.blk scope) (SatB (F.blk scope) scope) tg ifs elt (own.map (·.2)) (wipeG Γ (own.map (·.2))) W1 d (f d)) (hz : ds.length < sizeLine)
    (hA : A.nx (Γ.set j (some (.lst (ds.filterMap f)))) W1) (hf : ∀ env x, foldedSetIterable iter env x = pure x := by intro _ _; rfl) :
    S1 F (.Assign [.Name y py] (.ListComp elt [⟨tg, iter, ifs, 0⟩] scope pos) spos) Γ W A := by
  refine S1.frozen (Γ0 := Γ) (j := j) (xs := ds.filterMap f) (W1 := W1) ?_ hA
  refine s1_setLcS j hN hj hy hkd hl hnm ok hi (fun i => (ds.take i).filterMap f) (fun _ => W1) rfl rfl (fun _ _ => hwk) (fun i d hd => (hs d (List.mem_of_getElem? hd)).one hd f rfl) hz (fun q => ⟨q, rfl, ?_⟩) hf
  rw [List.take_length]
end
end Sh
set_option Elab.async false
set_option linter.all false
set_option maxRecDepth 100000
set_option maxHeartbeats 1000000
set_option autoImplicit false
/-! ShZb: pairs as data, a thing equal to itself; what is left of lambdas. -/
namespace Sh
open PySem PySem.Spec PyProof.Rows L2
section
variable {α β : Type} [DecidableEq α] [DecidableEq β] {ok1 : α → Prop} {ok2 : β → Prop} {e1 : α → PyData} {e2 : β → PyData} {n m : Nat}
theorem Enc.pair (E1 : Enc ok1 e1 n) (E2 : Enc ok2 e2 m) : Enc (fun p : α × β => ok1 p.1 ∧ ok2 p.2) (fun p => .tuple [e1 p.1, e2 p.2]) (max n m + 1) := by
  refine ⟨fun p h => ?_, fun p => ?_, fun p q => ?_⟩
  · simp only [PyData.canLay0, PyData.canLayAll0, E1.lay _ h.1, E2.lay _ h.2]
    rfl
  · have h1 := E1.dep p.1
    have h2 := E2.dep p.2
    rw [PyData.depth, PyData.depthAll, PyData.depthAll, PyData.depthAll]
    omega
  · have h1 := E1.eq p.1 q.1
    have h2 := E2.eq p.2 q.2
    rw [PyData.eqv, PyData.eqvAll, PyData.eqvAll, PyData.eqvAll, h1, h2, Bool.and_true]
    by_cases e : p = q
    · subst e
      simp
    · rw [decide_eq_false e, Bool.and_eq_false_iff]
      by_cases e1 : p.1 = q.1
      · exact .inr (decide_eq_false fun w => e (Prod.ext e1 w))
      · exact .inl (decide_eq_false e1)
end
theorem LamW.sub {cl : List (Str × Addr)} {q : Str} : ∀ {es : List Expr} {ds : List D} {W W' : OW}, LamW cl q es ds W W' → ∀ p ∈ W, p ∈ W'
  | [], ds, W, W', h, p, hp => by
    obtain ⟨_, rfl⟩ := h
    exact hp
  | e :: es, ds, W, W', h, p, hp => by
    obtain ⟨f, w, ds', hv, rfl, h⟩ := h
    exact LamW.sub h p (List.mem_cons_of_mem _ hp)
theorem LamW.get {cl : List (Str × Addr)} {q : Str} : ∀ {es : List Expr} {ds : List D} {W W' : OW}, LamW cl q es ds W W' → ds.length = es.length ∧ ∀ (i : Nat) (d : D), ds[i]? = some d → ∃ (f : Addr) (e : Expr) (w : AO), d = D.ptr f ∧ (f, w) ∈ W' ∧ LamV cl q e f w ∧ e ∈ es
  | [], ds, W, W', h => by
    obtain ⟨rfl, rfl⟩ := h
    exact ⟨rfl, fun i d h => by simp at h⟩
  | e :: es, ds, W, W', h => by
    obtain ⟨f, w, ds', hv, rfl, h⟩ := h
    obtain ⟨h1, h2⟩ := LamW.get h
    refine ⟨by rw [List.length_cons, List.length_cons, h1], fun i d hd => ?_⟩
    cases i with
    | zero =>
      rw [List.getElem?_cons_zero] at hd
      cases hd
      exact ⟨f, e, w, rfl, LamW.sub h _ List.mem_cons_self, hv, List.mem_cons_self⟩
    | succ i =>
      rw [List.getElem?_cons_succ] at hd
      obtain ⟨f, e, w, q1, q2, q3, q4⟩ := h2 i d hd
      exact ⟨f, e, w, q1, q2, q3, List.mem_cons_of_mem _ q4⟩
/-- what is owned ahead stays as it lies, behind what is new -/
theorem LamW.tail {cl : List (Str × Addr)} {q : Str} : ∀ {es : List Expr} {ds : List D} {W W' : OW}, LamW cl q es ds W W' → ∃ L, W' = L ++ W
  | [], ds, W, W', h => by
    obtain ⟨_, rfl⟩ := h
    exact ⟨[], rfl⟩
  | e :: es, ds, W, W', h => by
    obtain ⟨f, w, ds', hv, rfl, h⟩ := h
    obtain ⟨L, rfl⟩ := LamW.tail h
    exact ⟨L ++ [(f, w)], by rw [List.append_assoc]; rfl⟩
section
variable {P : Program} {w : World} {K : PySem.W.Frag} {mg : Str → Option Value} {base : Heap} {T : Tb}
theorem FdR.imp {x : Str} {k j n : Nat} {S : LawR} (h : FdR P w K mg base T x k n S) (hk : k ≤ j) : FdR P w K mg base T x j n S := by
  obtain ⟨f, fd, ps, h1, h2, h3, h4, h5⟩ := h.ex
  exact ⟨f, fd, ps, h1, h2, h3, h4, h5.mono hk⟩
theorem Fd.up {x : Str} {k j n : Nat} {S : Law} (h : Fd P w K mg base T x k n S) (hk : k ≤ j) : Fd P w K mg base T x j n S := h.imp hk fun _ _ _ _ h => h
end
section
variable {F : CF} {Γ : Ga} {W W1 W2 : OW} {a b e : Expr} {d : D}
/-- less is known, and of what is owned too, from here on -/
theorem SS.weak {Γ' : Ga} {st : List Stmt} {A : AE} (h : SS F st Γ' W1 A) (l : Lq Γ Γ') (q : W1.Sublist W) : SS F st Γ W A := (h.less l).drop q
end
end Sh
set_option Elab.async false
set_option linter.all false
set_option maxRecDepth 100000
set_option maxHeartbeats 1000000
set_option autoImplicit false
/-! ShHd: what the top has left, told by names; the law's promise at the head. -/
namespace Sh
open PySem PySem.Spec PyProof.Rows L2
/-- a def of the module as a datum -/
def dfn (x : Str) (st : Stmt) : He.DefD := ⟨(x, none), x, x, defArgs st, defBody st, defScope st, [], []⟩
/-- a method of a class -/
def mtd (C m q : Str) (st : Stmt) : He.DefD := ⟨(C, some m), m, q, defArgs st, defBody st, defScope st, [], []⟩
theorem fun_of {K : PySem.W.Frag} {x q : Str} {st : Stmt} {f : Addr} {fd : FuncData} (h : FunD K x q (defArgs st) (defBody st) (defScope st) [] [] f fd) : Fun K x q st f fd := by
  obtain ⟨oc, od, dV, kV, doc, pm, an, cdv, ct, osl, e, lk, hc, hd, _⟩ := h.ex
  rcases hd with ⟨_, rfl⟩ | ⟨h, _⟩
  · exact ⟨⟨oc, od, kV, doc, pm, an, cdv, ct, osl, e, lk, hc⟩, h.kp⟩
  · exact absurd rfl h
/-- the tuple of the module's name, without a dict -/
def tupN (K : PySem.W.Frag) (x : Str) (vs : List He.Dv) : Bool := match K.lookup (He.ga K x) with
  | some ⟨.type c, none, .seq its _, _⟩ => decide (c = "tuple") && (decide (its.size ≤ sizeLine) && He.relAll (vs.map (He.Dv.v K)) its.toList)
  | _ => false
theorem tupK_of {K : PySem.W.Frag} {a : Addr} {vs : List V} (h : (match K.lookup a with
  | some ⟨.type c, none, .seq its _, _⟩ => decide (c = "tuple") && (decide (its.size ≤ sizeLine) && He.relAll vs its.toList)
  | _ => false) = true) (G : Hp) : TupK K G a vs := by
  cases q : K.lookup a with
  | none =>
    rw [q] at h
    cases h
  | some o =>
    obtain ⟨oc, od, dt, osl⟩ := o
    rw [q] at h
    cases oc with
    | type c =>
      cases od with
      | none =>
        cases dt with
        | seq its n =>
          obtain ⟨h1, h2⟩ := He.ba h
          obtain ⟨h3, h4⟩ := He.ba h2
          exact .inr ⟨_, its, n, q, congrArg Value.type (of_decide_eq_true h1), rfl, rfl, of_decide_eq_true h3, He.relAll_ok h4⟩
        | _ => cases h
      | some d => cases dt <;> cases h
    | _ => cases od <;> cases dt <;> cases h
theorem tupN_ok {K : PySem.W.Frag} {x : Str} {vs : List He.Dv} (h : tupN K x vs = true) (G : Hp) : TupK K G (He.ga K x) (vs.map (He.Dv.v K)) := tupK_of h G
inductive SLaw (K : PySem.W.Frag) (T : Tb) : Law
  | mk (q : Addr) (ns : List Int) (W : OW) (hS : Stands K T q (ns.map .int) W) : SLaw K T [.ptr q] W (.ok (.bl true)) []
theorem tb_start {T : Tb} {H : Hp} {cs : List (Addr × Addr)} (hH : ∀ p ∈ cs, H p.2 = some (.tbl #[])) (hg : ∀ P ∈ T.g, ∃ p ∈ cs, p.2 = P) (hl : ∀ q ∈ T.l, ∃ p ∈ cs, p.2 = q.1) : T.Ok (fun _ => none) H := by
  refine ⟨fun P hP => ?_, fun q hq => ?_, fun q hq ps e pos cv hc => ?_⟩
  · obtain ⟨p, hp, rfl⟩ := hg P hP
    exact ⟨#[], hH p hp, by trivial⟩
  · obtain ⟨p, hp, e⟩ := hl q hq
    refine ⟨#[], by rw [← e]; exact hH p hp, by trivial, fun pos cv hc => ?_⟩
    exact absurd hc (by simp [codeAmong])
  · obtain ⟨p, hp, e2⟩ := hl q hq
    rw [← e2, hH p hp] at e
    cases e
    exact absurd hc (by simp [codeAmong])
theorem sp_start {K : PySem.W.Frag} {T : Tb} {H : Hp} {cs : List (Addr × Addr)} {a : Addr} {ns : List Int} (hH : ∀ p ∈ cs, H p.2 = some (.tbl #[])) (hg : ∀ P ∈ T.g, ∃ p ∈ cs, p.2 = P) (hl : ∀ q ∈ T.l, ∃ p ∈ cs, p.2 = q.1) (hS : SqL K H a (ns.map V.int)) :
    spOf K T (SLaw K T) [.ref a] H (fun v _ => v = .bl true) fun _ _ _ => False := by
  have tb := tb_start hH hg hl
  have fin : ∀ W : OW, Hk K T (fun _ => none) W H → Stands K T a (ns.map .int) W → spOf K T (SLaw K T) [.ref a] H (fun v _ => v = .bl true) fun _ _ _ => False := fun W hk hs =>
    ⟨fun _ => none, W, [.ptr a], .ok (.bl true), [], hk, Rps.nil.cons (.ptr a), .mk a ns W hs, fun v G' H' _ r => r.bl_inv⟩
  have own : ∀ o : HO, H a = some o → (∀ ps, o ≠ .tbl ps) → (∀ H' : Hp, H' a = some o → SqL K H' a (ns.map V.int)) → spOf K T (SLaw K T) [.ref a] H (fun v _ => v = .bl true) fun _ _ _ => False := fun o ho nt hs => by
    refine fin [(a, .raw o)] ⟨fun b u e => (by cases e), fun b ps e => (by cases e), (by simp), fun p hp => ?_, tb⟩ fun G H' hk => ?_
    · rw [List.mem_singleton] at hp
      subst hp
      refine ⟨rfl, o, ho, ?_⟩
      cases o <;> exact ⟨rfl, nt⟩
    · obtain ⟨_, u, e, r⟩ := hk.own (a, .raw o) List.mem_cons_self
      have e : H' a = some u := e
      rw [r.raw_inv] at e
      exact hs H' e
  rcases hS with h | h
  · rcases h with h | ⟨o, h⟩
    · exact own _ h (fun ps e => by cases e) fun H' e => .inl (.inl e)
    · exact own _ h (fun ps e => by cases e) fun H' e => .inl (.inr ⟨o, e⟩)
  · exact fin [] ⟨fun b u e => (by cases e), fun b ps e => (by cases e), List.nodup_nil, fun p hp => (by cases hp), tb⟩ fun G H' _ => .inr h
theorem law_at {l : PySem.W.OpenLaw} {w : World} {K : PySem.W.Frag} {mg : Str → Option Value} {fa : Addr} {h : Heap} {k : Nat} {T : Tb} {cs : List (Addr × Addr)} {fd : FuncData} (hT : ∀ p ∈ cs, h.get? p.2 = some { cls := .none, data := .fields #[] }) (nT : ∀ p ∈ cs, K.lookup p.2 = none) (C : ∀ p ∈ cs, PySem.W.CodeHd h p.1 p.2)
    (hg : ∀ P ∈ T.g, ∃ p ∈ cs, p.2 = P) (hl : ∀ q ∈ T.l, ∃ p ∈ cs, p.2 = q.1) (hb : ∀ (s : Shared) (u : Value), BindsTo s fd ⟨[u], []⟩ [("script", u)])
    (hF : ∀ base : Heap, K.In base → base.Ns mainGlobals mg → (∀ p ∈ cs, LamX.TabB base mg p.1 p.2) → FnOk l.prog w K mg base (L2.CX l.prog w) k fa fd ["script"] (spOf K T (SLaw K T))) : LamX.LawAtS l w K (L2.CX l.prog w) k 63 "script" mg fa h :=
  ⟨fd, cs, spOf K T (SLaw K T), hT, nT, C, hb, fun H a ns _ _ hH hS => sp_start hH hg hl hS, hF⟩
theorem cx_none {P : Program} {w : World} {H : Hp} {s : Shared} {e : Value} {s' : Shared} (h : L2.CX P w [] H s (fun _ _ _ => False) e s') : False := by
  obtain ⟨_, _, _, _, _, _, _, _, _, _, _, _, h⟩ := h
  exact h
theorem gtab {base : Heap} {mg : Str → Option Value} {c P : Addr} (h : LamX.TabB base mg c P) : GxR.TabB base mg c P := ⟨h.code, h.bm, h.gP⟩
section
variable {P : Program} {w : World} {K : PySem.W.Frag} {mg : Str → Option Value} {base : Heap} {T : Tb}
/-- a def's law from its walk -/
theorem Fd.mk2 {x : Str} {st : Stmt} {f : Addr} {fd : FuncData} {k n : Nat} {S : Law} {ps : List Str} (Fu : Fun K x x st f fd) (hg : mg x = some (.ref f)) (ok : FnOk P w K mg base (L2.CX P w) k f fd ps (spOf K T S))
    (hb : ∀ (kV doc pm : Value) (an : Option Addr) (cdv ct : Value) (us : List Value), us.length = ps.length → bindArgs (PySem.W.fnOf x x (defArgs st) (defBody st) (defScope st) .none kV doc pm an cdv ct) ⟨us, []⟩ = pure (ps.zip us)) (hn : ps.length = n := by rfl) : Fd P w K mg base T x k n S :=
  ⟨f, fd, ps, hg, Fu.kp, Fu.binds hb, hn, ok⟩
theorem FdR.mk2 {x : Str} {st : Stmt} {f : Addr} {fd : FuncData} {k n : Nat} {S : LawR} {ps : List Str} (Fu : Fun K x x st f fd) (hg : mg x = some (.ref f)) (ok : FnOk P w K mg base (L2.CX P w) k f fd ps (spOfR K T S))
    (hb : ∀ (kV doc pm : Value) (an : Option Addr) (cdv ct : Value) (us : List Value), us.length = ps.length → bindArgs (PySem.W.fnOf x x (defArgs st) (defBody st) (defScope st) .none kV doc pm an cdv ct) ⟨us, []⟩ = pure (ps.zip us)) (hn : ps.length = n := by rfl) : FdR P w K mg base T x k n S :=
  ⟨f, fd, ps, hg, Fu.kp, Fu.binds hb, hn, ok⟩
/-- a def's code object -/
theorem code_of {x q : Str} {st : Stmt} {f : Addr} {fd : FuncData} (Fu : Fun K x q st f fd) {p : Str × Option Str} (hf : He.fAd K p = f) : fd.code = .ref (He.codeOf K p) := by
  obtain ⟨oc, od, kV, doc, pm, an, cdv, ct, osl, rfl, lk, hc⟩ := Fu.ex
  obtain ⟨c, rfl⟩ := He.codeIn_ref hc
  rw [He.codeOf_eq (p := p) (by rw [hf]; exact lk) rfl]
theorem xc_of {h : Heap} (X : K.In h) (G : h.Ns mainGlobals mg) {x : Str} (c1 : (He.Fa.glo x).ok K = true) (c2 : (He.Fa.exc x).ok K = true) : XC K mg x (He.ga K x) := by
  obtain ⟨h1, h2, h3, h4⟩ := He.exc_ok c2
  exact ⟨He.glo_ok X G c1, h1, h2, h3, h4⟩
theorem told_of {x a e ret : Str} {st : Stmt} {g CS : Addr} {fd : FuncData} {j : Nat} {p1 p2 p3 p4 p5 p6 p7 p8 : Pos} (Fu : Fun K x x st g fd) (hg : mg x = some (.ref g))
    (hbd : defBody st = [.Try [.Return (some (.Call (.Name a p1) [] [] p2)) p3] [.ExceptHandler (some (.Name e p4)) none [.Return (some (.Constant (.str ret) j p5)) p6] p7] [] [] p8])
    (Sc : FnScope [a] [a] (defScope st)) (hv : L2.Vis (defScope st) a) (he : (defScope st).names.lookup e = some .globalImplicit) (hE : mg e = some (.ref CS))
    (hb : ∀ (kV doc pm : Value) (an : Option Addr) (cdv ct : Value) (us : List Value), us.length = [a].length → bindArgs (PySem.W.fnOf x x (defArgs st) (defBody st) (defScope st) .none kV doc pm an cdv ct) ⟨us, []⟩ = pure ([a].zip us))
    (h1 : (e == ("__debug__" : Str)) = false := by decide) (h2 : (a == ("__debug__" : Str)) = false := by decide) (h3 : (a == ("__classdict__" : Str)) = false := by decide) : Told P w K mg x CS ret := by
  have hbi := Fu.binds hb
  obtain ⟨oc, od, kV, doc, pm, an, cdv, ct, osl, rfl, lk, hc⟩ := Fu.ex
  exact ⟨g, a, e, _, _, _, _, kV, doc, pm, cdv, ct, oc, an, od, osl, [a], j, p1, p2, p3, p4, p5, p6, p7, p8, hg, Fu.kp, lk, hc, hbi, Sc, rfl, hv, hbd, he, hE, h1, h2, h3, fun f => rfl⟩
theorem binds_one {x y : Str} {st : Stmt} {f : Addr} {fd : FuncData} (Fu : Fun K x x st f fd) (h : ∀ (kV doc pm : Value) (an : Option Addr) (cdv ct u : Value), bindArgs (PySem.W.fnOf x x (defArgs st) (defBody st) (defScope st) .none kV doc pm an cdv ct) ⟨[u], []⟩ = pure [(y, u)]) (s : Shared) (u : Value) : BindsTo s fd ⟨[u], []⟩ [(y, u)] := by
  obtain ⟨oc, od, kV, doc, pm, an, cdv, ct, osl, rfl, lk, hc⟩ := Fu.ex
  exact .of_eq (h kV doc pm an cdv ct u)
/-- the facts of a def with a table -/
theorem tab_of {x : Str} {st : Stmt} {fd : FuncData} {tf : List He.Defn} (Fu : Fun K x x st (He.ga K x) fd) (TB : ∀ p ∈ tf.map (He.cT K), LamX.TabB base mg p.1 p.2) (hx : (x, none) ∈ tf) (hg : (He.cT K (x, none)).2 ∈ T.g) (hl : (He.cT K (x, none)).2 ∉ T.l.map (·.1)) :
    fd.code = .ref (He.codeOf K (x, none)) ∧ GxR.TabB base mg (He.codeOf K (x, none)) (He.cT K (x, none)).2 ∧ (He.cT K (x, none)).2 ∈ T.g ∧ (He.cT K (x, none)).2 ∉ T.l.map (·.1) :=
  ⟨code_of Fu (p := (x, none)) rfl, gtab (TB _ (List.mem_map_of_mem hx)), hg, hl⟩
end
end Sh
set_option Elab.async false
set_option linter.all false
set_option maxRecDepth 100000
set_option maxHeartbeats 1000000
set_option autoImplicit false
/-! ShIt: enumerate and zip over lists, tuples, texts, in any mix. -/
namespace Sh
open PySem PySem.Spec PyProof.Rows L2
inductive Src where
  | lst (a : Addr) | tup (a : Addr) | txt (z : Str)
def Src.v : Src → V
  | .lst a => .ref a
  | .tup a => .ref a
  | .txt z => .str z
def Src.At (K : PySem.W.Frag) (H : Hp) : Src → List V → Prop
  | .lst a, xs => SqL K H a xs
  | .tup a, xs => SqT K H a xs
  | .txt z, xs => xs = z.cps.toList.map fun c => .str ⟨#[c]⟩
def Src.ne : Src → Addr → Prop
  | .lst a, b => a ≠ b
  | .tup a, b => a ≠ b
  | .txt _, _ => True
def Src.It (t : Tok) (it : Addr) (i : Nat) (h : Heap) : Src → Prop
  | .lst a => h.IsListIter it a i
  | .tup a => h.IsTupleIter it a i
  | .txt z => h.IsStrIter it (strIterType z) z t i
def Src.fp : Src → Addr → List Addr
  | .lst a, it => [it, a]
  | .tup a, it => [it, a]
  | .txt _, it => [it]
def Src.obj (t : Tok) : Src → Obj
  | .lst a => { cls := .type "list_iterator", data := .fields #[.ref a, .int 0 0] }
  | .tup a => { cls := .type "tuple_iterator", data := .fields #[.ref a, .int 0 0] }
  | .txt z => { cls := .type (strIterType z), data := .fields #[.str z t, .int 0 0] }
/-- a value as it stands -/
def Src.val (t : Tok) : Src → Value
  | .lst a => .ref a
  | .tup a => .ref a
  | .txt z => .str z t
theorem Src.it_obj {t : Tok} {it : Addr} {i : Nat} {h : Heap} {u : Src} (x : u.It t it i h) : ∃ o, h.get? it = some o ∧ ∀ v, o.data ≠ .cell v := by
  cases u <;> (obtain ⟨o, ho, hc, hd⟩ := x; exact ⟨o, ho, fun v q => by rw [hd] at q; cases q⟩)
theorem Src.it_keep {t : Tok} {it : Addr} {i : Nat} {h h' : Heap} {u : Src} (x : u.It t it i h) (k : ∀ o, h.get? it = some o → h'.get? it = some o) : u.It t it i h' := by
  cases u <;> (obtain ⟨o, ho, hr⟩ := x; exact ⟨o, k o ho, hr⟩)
theorem Src.it_start {t : Tok} {it : Addr} {h : Heap} {u : Src} (x : h.get? it = some (u.obj t)) : u.It t it 0 h := by
  cases u <;> exact ⟨_, x, rfl, rfl⟩
theorem Src.fp_mem {u : Src} {it b : Addr} (h : b ∈ u.fp it) : b = it ∨ ¬ u.ne b := by
  cases u with
  | txt z => exact .inl (List.mem_singleton.mp h)
  | lst a =>
    rcases List.mem_cons.mp h with e | e
    · exact .inl e
    · exact .inr fun z => z (List.mem_singleton.mp e).symm
  | tup a =>
    rcases List.mem_cons.mp h with e | e
    · exact .inl e
    · exact .inr fun z => z (List.mem_singleton.mp e).symm
theorem Src.fp_not {u : Src} {it b : Addr} (h : b ≠ it) (hn : u.ne b) : b ∉ u.fp it := fun z => by
  rcases Src.fp_mem z with e | e
  · exact h e
  · exact e hn
theorem Src.fp_it (u : Src) (it : Addr) : it ∈ u.fp it := by cases u <;> exact List.mem_cons_self
section
variable {X : Cx} {pins : List (Addr × Obj)} {σ : L2.St} {H : Hp} {s : Shared} {u : Src} {xs : List V} {t : Tok} {it : Addr} {i : Nat}
theorem Src.inj {ys : List V} (I : Inv X pins σ H s) (h : u.At X.K H xs) (h' : u.At X.K H ys) : xs = ys := by
  cases u with
  | lst a => exact I.list_inj h h'
  | tup a => exact I.tuple_inj h h'
  | txt z => exact h.trans h'.symm
theorem Src.low (I : Inv X pins σ H s) (h : u.At X.K H xs) {b : Addr} (hb : s.heap.objs.size ≤ b) : u.ne b := by
  cases u with
  | lst a =>
    obtain ⟨its, rv, p, _⟩ := I.list h
    exact fun e => Nat.not_lt_of_le hb (e ▸ p.lt)
  | tup a =>
    obtain ⟨its, rv, p, _⟩ := I.tuple h
    obtain ⟨o, ho, _⟩ := id p
    exact fun e => Nat.not_lt_of_le hb (e ▸ Heap.lt_size ho)
  | txt z => trivial
theorem vals_back {its : List Value} (rv : Vals xs its) {j : Nat} {v : Value} (h : its.toArray[j]? = some v) : ∃ x, xs[j]? = some x ∧ RelV x v := by
  have h2 : its[j]? = some v := by simpa using h
  have hl : j < xs.length := by
    rw [rv.length]
    exact (List.getElem?_eq_some_iff.mp h2).1
  obtain ⟨w, hw, r⟩ := rv.get (List.getElem?_eq_getElem hl)
  rw [h2] at hw
  cases hw
  exact ⟨_, List.getElem?_eq_getElem hl, r⟩
/-- the iterator draws the items -/
theorem Src.draw (I : Inv X pins σ H s) (hh : X.A.in1.handled = none) (ha : u.At X.K H xs) (hi : u.It t it i s.heap) (hn : u.ne it) : ∃ (P : Nat → Value → Prop) (St : Nat → Heap → Prop), Draws X.prog X.w X.A.in1 it (u.fp it) xs.length P St ∧ St i s.heap ∧ (∀ j v, P j v → ∃ x, xs[j]? = some x ∧ RelV x v) ∧ ∀ j h, St j h → u.It t it j h := by
  cases u with
  | lst a =>
    obtain ⟨its, rv, p, _⟩ := I.list ha
    have e : its.toArray.size = xs.length := by rw [List.size_toArray]; exact rv.length.symm
    exact ⟨_, _, e ▸ Draws.list hh it a hn its.toArray, ⟨hi, p.isList⟩, fun j v h => vals_back rv h, fun j h st => st.1⟩
  | tup a =>
    obtain ⟨its, rv, p, _⟩ := I.tuple ha
    have e : its.toArray.size = xs.length := by rw [List.size_toArray]; exact rv.length.symm
    exact ⟨_, _, e ▸ Draws.tuple hh it a hn its.toArray, ⟨hi, p⟩, fun j v h => vals_back rv h, fun j h st => st.1⟩
  | txt z =>
    have ha : xs = _ := ha
    have e : z.cps.size = xs.length := by rw [ha]; simp
    refine ⟨_, _, e ▸ Draws.text hh it z t, hi, fun j v h => ?_, fun j h st => st⟩
    obtain ⟨c, w, h1, rfl⟩ := h
    refine ⟨.str ⟨#[c]⟩, ?_, w, rfl⟩
    rw [ha, List.getElem?_map]
    have : z.cps.toList[j]? = some c := by simpa using h1
    rw [this]
    rfl
/-- .. or ends -/
theorem Src.drawEnd (I : Inv X pins σ H s) (hh : X.A.in1.handled = none) (ha : u.At X.K H xs) (hi : u.It t it i s.heap) (hl : xs.length ≤ i) : ∃ (St : Nat → Heap → Prop), Draws X.prog X.w X.A.in1 it (u.fp it) i (fun _ _ => False) St ∧ St i s.heap := by
  cases u with
  | lst a =>
    obtain ⟨its, rv, p, _⟩ := I.list ha
    have e : its.toArray[i]? = none := by simp; have := rv.length; omega
    refine ⟨fun j h => j = i ∧ h.IsListIter it a j ∧ h.IsList a its.toArray, ⟨fun j h st => let ⟨o, ho, _⟩ := st.2.1; ⟨o, ho⟩, fun j h h' st k => ⟨st.1, st.2.1.at fun o e => k it (by simp [Src.fp]) o e, st.2.2.at fun o e => k a (by simp [Src.fp]) o e⟩, fun j s Q E hj st => absurd st.1 (by omega), fun s Q E st hE => wpAny_nextOf_list_end hh st.2.1 st.2.2 e hE⟩, rfl, hi, p.isList⟩
  | tup a =>
    obtain ⟨its, rv, p, _⟩ := I.tuple ha
    have e : its.toArray[i]? = none := by simp; have := rv.length; omega
    refine ⟨fun j h => j = i ∧ h.IsTupleIter it a j ∧ h.IsTuple a its.toArray, ⟨fun j h st => let ⟨o, ho, _⟩ := st.2.1; ⟨o, ho⟩, fun j h h' st k => ⟨st.1, st.2.1.at fun o e => k it (by simp [Src.fp]) o e, st.2.2.at fun o e => k a (by simp [Src.fp]) o e⟩, fun j s Q E hj st => absurd st.1 (by omega), fun s Q E st hE => wpAny_nextOf_tuple_end hh st.2.1 st.2.2 e hE⟩, rfl, hi, p⟩
  | txt z =>
    have ha : xs = _ := ha
    have e : z.cps[i]? = none := by
      have : z.cps.size = xs.length := by rw [ha]; simp
      simp
      omega
    refine ⟨fun j h => j = i ∧ h.IsStrIter it (strIterType z) z t j, ⟨fun j h st => let ⟨o, ho, _⟩ := st.2; ⟨o, ho⟩, fun j h h' st k => ⟨st.1, let ⟨o, ho, r⟩ := st.2; ⟨o, k it (by simp [Src.fp]) o ho, r⟩⟩, fun j s Q E hj st => absurd st.1 (by omega), fun s Q E st hE => ?_⟩, rfl, hi⟩
    obtain ⟨_, st⟩ := st
    cases hz : z.cps.all (· < 128)
    · exact wpAny_nextOf_wide_end hh (by simpa [strIterType, hz] using st) e hE
    · exact wpAny_nextOf_ascii_end hh (by simpa [strIterType, hz] using st) e hE
theorem Src.begins (I : Inv X pins σ H s) (ha : u.At X.K H xs) : ∃ B : Heap → Prop, Begins (u.val t) (u.obj t) B ∧ B s.heap := by
  cases u with
  | lst a =>
    obtain ⟨its, rv, p, _⟩ := I.list ha
    exact ⟨_, begins_list a its.toArray, p.isList⟩
  | tup a =>
    obtain ⟨its, rv, p, _⟩ := I.tuple ha
    exact ⟨_, begins_tuple a its.toArray, p⟩
  | txt z => exact ⟨_, begins_text z t, trivial⟩
end
theorem Src.val_of {u : Src} {v : Value} (r : RelV u.v v) : ∃ t, v = u.val t := by
  cases u with
  | lst a => exact ⟨0, r⟩
  | tup a => exact ⟨0, r⟩
  | txt z => exact r
theorem meets_enumerate_one {v : Value} {o : Obj} {H : Heap → Prop} (B : Begins v o H) :
    Meets (Builtin.«enumerate.__new__» ⟨[.type "enumerate", v], []⟩) (fun _ R s => H s.heap ∧
      R (.ok (.ret (.ref (s.heap.push o).objs.size))) { s with heap := (s.heap.push o).push { cls := .type "enumerate", data := .fields #[.none, .bool false, .ref s.heap.objs.size, rawInt 0, .none, .none] } }) :=
  .of_wp fun prog w A R s h => by
    obtain ⟨hp, g, d, tk, os⟩ := s
    obtain ⟨h1, h⟩ := h
    have hsub := sub_enumerate
    have q1 : ∀ {A' : Around} {E : Value → Shared → Prop} {Q : Value → Shared → Prop}, Q (.ref hp.objs.size) ⟨hp.push o, g, d, tk, os⟩ → wpAny (model prog w) A' (pyIter v) Q E ⟨hp, g, d, tk, os⟩ :=
      fun q => B.iter prog w _ _ ⟨hp, g, d, tk, os⟩ _ h1 q
    wp_walk using q1
    refine wpAny_stack_any fun st => wpAny_pure ?_
    split
    · rename_i c _ _ _ _ _
      cases (c == Value.type "enumerate")
      · wp_walk using q1
        exact ⟨_, rfl, h⟩
      · wp_walk using q1
        exact ⟨_, rfl, h⟩
    · wp_walk using q1
      exact ⟨_, rfl, h⟩
section
variable {prog : Program} {w : World} {A : Around} {E : Value → Shared → Prop} {s : Shared}
theorem enum_one {v : Value} {o : Obj} {H : Heap → Prop} {Q : Value → Shared → Prop} (B : Begins v o H) (h1 : H s.heap)
    (h : ∀ h', IsEnum h' (s.heap.objs.size + 1) s.heap.objs.size 0 .none → h'.get? s.heap.objs.size = some o →
      (∀ b o, s.heap.get? b = some o → h'.get? b = some o) → Q (.ref (s.heap.objs.size + 1)) { s with heap := h' }) :
    wpAny (model prog w) A (call (.type "enumerate") [v]) Q E s := by
  refine callType_new F.called_enumerate (by decide) (F.typeCall_enumerate_1 _) (F.newCall_enumerate_1 _) (fun obj => F.args_object_init_2 obj _) F.entry_enumerate_new
    (meets_enumerate_one B) ⟨h1, ?_⟩
  have hz : (s.heap.push o).objs.size = s.heap.objs.size + 1 := Heap.size_push ..
  show _ ∧ _
  rw [hz]
  have he : IsEnum ((s.heap.push o).push { cls := .type "enumerate", data := .fields #[.none, .bool false, .ref s.heap.objs.size, rawInt 0, .none, .none] }) (s.heap.objs.size + 1) s.heap.objs.size 0 .none := by
    have := Heap.get?_push_size (s.heap.push o) (o := { cls := .type "enumerate", data := .fields #[.none, .bool false, .ref s.heap.objs.size, rawInt 0, .none, .none] }) rfl
    rw [hz] at this; exact this
  exact ⟨⟨_, he, rfl⟩, h _ he (Heap.get?_push_of_some _ (Heap.get?_push_size _ B.free)) fun b o x => Heap.get?_push_of_some _ (Heap.get?_push_of_some _ x)⟩
end
/-- what a for goes over: pairs of a count and an item -/
def ItE (K : PySem.W.Frag) (u : Src) : It :=
  ⟨fun i H => ∃ (xs : List V) (x : V), u.At K H xs ∧ xs[i]? = some x,
    fun i H v H' => ∃ T x, v = .ref T ∧ H T = none ∧ H' = upd H T (.tup [.int (i : Nat), x]) ∧ ∀ xs, u.At K H xs → xs[i]? = some x,
    fun i H => ∃ xs : List V, u.At K H xs ∧ xs.length ≤ i⟩
theorem turn_enumS {P : Program} {w : World} {K : PySem.W.Frag} {elts : List Expr} {kk : Nat} {tpos : Pos} (u : Src) (t : Tok) (e it : Addr) :
    Turn P w K (.Tuple elts kk tpos) (ItE K u) [e, it] e (fun i h => (∃ old, IsEnum h e it ((i : Nat) : Int) old) ∧ u.It t it i h ∧ e ≠ it ∧ u.ne e ∧ u.ne it) where
  mem := by simp
  obj := fun i h st b hb => by
    obtain ⟨⟨old, he⟩, hi, _⟩ := st
    have e' : b = e ∨ b = it := by simpa using hb
    rcases e' with z | z
    · rw [z]; exact ⟨_, he, fun v q => nomatch q⟩
    · rw [z]; exact Src.it_obj hi
  keep := fun i h h' st k => let ⟨⟨old, he⟩, hi, r⟩ := st; ⟨⟨old, k e (by simp) _ he⟩, Src.it_keep hi fun o q => k it (by simp) o q, r⟩
  item := by
    intro X hP hw hK hc i pins s σ H E I hf st hg
    subst hP hw hK
    obtain ⟨⟨old, he⟩, hit, hne, ne1, ne2⟩ := st
    obtain ⟨xs, x, hq, hx⟩ := hg
    obtain ⟨Pd, Sd, D, d1, d2, d3⟩ := Src.draw I (I.ok.hd hc) hq hit ne2
    have hil : i < xs.length := (List.getElem?_eq_some_iff.mp hx).1
    have hel : e < s.heap.objs.size := Heap.lt_size he
    have hitl : it < s.heap.objs.size := by obtain ⟨o, q, _⟩ := Src.it_obj hit; exact Heap.lt_size q
    refine wpAny_pyNext_enum_itemC D he d1 hil hne (Src.fp_not hne ne1) fun y h' tk hp ho hit' hT hsz hk => ?_
    obtain ⟨x', hx', ru⟩ := d2 _ _ hp
    rw [hx] at hx'
    cases hx'
    refine ⟨_, rfl, wpAny_letOwnedTupleGo_enum (s := { s with heap := h', toks := tk + 1 }) ho fun h'' he' sb => ?_⟩
    have hT2 : h''.get? s.heap.objs.size = some { cls := .type "tuple", data := .seq #[.int i tk, y] } := (sb.2 _ (Nat.ne_of_gt hel)).trans hT
    have new : ObjOk X.prog X.w (upd H s.heap.objs.size (.tup [.int (i : Nat), x])) h'' s.heap.objs.size (.tup [.int (i : Nat), x]) :=
      ⟨by show 2 ≤ sizeLine; decide, [.int i tk, y], .cons ⟨_, rfl⟩ (.cons ru .nil), ⟨_, hT2, rfl, _, rfl⟩⟩
    have I1 : Inv X pins σ (upd H s.heap.objs.size (.tup [.int (i : Nat), x])) { s with heap := h'', toks := tk + 1 } :=
      I.turnedNew (ch := [e, it]) (fun b ob hb q => (sb.2 b (fun z => hb (by simp [z]))).trans (hk b ob (fun z => hb (by simp [z])) (fun z => hb (by simp [z])) q)) hf (Nat.le_refl _) new
    refine ⟨.ref s.heap.objs.size, _, I1, rfl, ⟨_, x, rfl, I.hok.fresh (Nat.le_refl _), rfl, fun ys hy => by rw [Src.inj I hy hq]; exact hx⟩, ⟨⟨y, ?_⟩, Src.it_keep (d3 _ _ hit') fun o q => (sb.2 it (Ne.symm hne)).trans q, hne, ne1, ne2⟩, fun b hb => ?_⟩
    · have e1 : ((i + 1 : Nat) : Int) = (i : Int) + 1 := by omega
      rw [e1]; exact he'
    · have hb' : b < s.heap.objs.size := by
        have e' : b = e ∨ b = it := by simpa using hb
        rcases e' with z | z
        · rw [z]; exact hel
        · rw [z]; exact hitl
      rw [upd_ne (Nat.ne_of_lt hb')]
      exact (hf b hb).1
  done := by
    intro X hP hw hK hc i pins s σ H E I hf st hg
    subst hP hw hK
    obtain ⟨⟨old, he⟩, hit, hne, ne1, ne2⟩ := st
    obtain ⟨xs, hq, hx⟩ := hg
    obtain ⟨Sd, D, d1⟩ := Src.drawEnd I (I.ok.hd hc) hq hit hx
    obtain ⟨f0, f1, f2, f3, f4, f5⟩ := hf it (by simp)
    exact wpAny_pyNext_enum_endD D he d1 fun h' eb => ⟨rfl, I.turned (t' := s.toks) (fun b o hb q => eb b o hb q) f0 f1 f3 f4 f5⟩
  self := fun A i s Q E st h => let ⟨⟨_, he⟩, _⟩ := st; wpAny_pyIter_enum he h
def iEnumS (K : PySem.W.Frag) (ta : TA) : TI := fun σ H R => ta σ H fun vs H1 => ∃ (u : Src) (xs : List V), vs = [u.v] ∧ u.At K H1 xs ∧ R (ItE K u) H1
theorem pi_enumS {X : Cx} {e : Expr} {ta : TA} {p pos tpos : Pos} {elts : List Expr} {kk : Nat} (hg : Gl X "enumerate") (hm : X.mg "enumerate" = none) (ha : PA X [e] ta) (hs : starEach [e] X.env = [(false, eval e X.env)] := by rfl) :
    PI X (.Tuple elts kk tpos) (.Call (.Name "enumerate" p) [e] [] pos) (iEnumS X.K ta) := by
  refine ⟨fun pins s σ H R I h => ?_⟩
  refine Call_ (ld_blt I hg hm boot_enumerate (PyProof.Rows.callWith_type1 (thn (ha.run pos pins s σ H _ I h) fun us s1 ⟨vs, H1, I1, r1, q1⟩ => ?_) hs rfl))
  obtain ⟨u, xs, ex, hq, q⟩ := q1
  subst ex
  cases r1 with
  | cons r rr =>
    cases rr
    obtain ⟨t, rfl⟩ := Src.val_of r
    obtain ⟨B, hB, hb⟩ := Src.begins (t := t) I1 hq
    refine enum_one hB hb fun h' he hit hk => wpAny_pyIter_enum he ?_
    have I2 : Inv X pins σ H1 { s1 with heap := h' } := I1.kept (t' := s1.toks) hk
    refine ⟨s1.heap.objs.size + 1, [s1.heap.objs.size + 1, s1.heap.objs.size], _, _, H1, rfl, I2, turn_enumS u t (s1.heap.objs.size + 1) s1.heap.objs.size, ⟨⟨.none, he⟩, Src.it_start hit, Nat.succ_ne_self _, Src.low I1 hq (Nat.le_succ _), Src.low I1 hq (Nat.le_refl _)⟩, fun b hb => ?_, q⟩
    have e' : b = s1.heap.objs.size + 1 ∨ b = s1.heap.objs.size := by simpa using hb
    have hle : s1.heap.objs.size ≤ b := by
      rcases e' with z | z
      · rw [z]; exact Nat.le_add_right _ _
      · rw [z]; exact Nat.le_refl _
    exact I1.fpOk hle (I1.hok.fresh hle)
end Sh
set_option Elab.async false
set_option linter.all false
set_option maxRecDepth 100000
set_option maxHeartbeats 1000000
set_option autoImplicit false
/-! ShJt: zip over any sources; the rules over the judgements. -/
namespace Sh
open PySem PySem.Spec PyProof.Rows L2
def Src.rest : Src → List Addr
  | .lst a => [a]
  | .tup a => [a]
  | .txt _ => []
theorem Src.fp_eq (u : Src) (it : Addr) : u.fp it = it :: u.rest := by cases u <;> rfl
theorem Src.rest_low {X : Cx} {pins : List (Addr × Obj)} {σ : L2.St} {H : Hp} {s : Shared} {u : Src} {xs : List V} (I : Inv X pins σ H s) (h : u.At X.K H xs) : ∀ b ∈ u.rest, b < s.heap.objs.size := by
  intro b hb
  cases u with
  | lst a =>
    obtain ⟨its, rv, p, _⟩ := I.list h
    rw [List.mem_singleton.mp hb]
    exact p.lt
  | tup a =>
    obtain ⟨its, rv, p, _⟩ := I.tuple h
    obtain ⟨o, ho, _⟩ := id p
    rw [List.mem_singleton.mp hb]
    exact Heap.lt_size ho
  | txt z => cases hb
/-- what a for goes over: pairs of items -/
def ItZ (K : PySem.W.Frag) (u1 u2 : Src) : It :=
  ⟨fun i H => ∃ (xs ys : List V) (x y : V), u1.At K H xs ∧ u2.At K H ys ∧ xs[i]? = some x ∧ ys[i]? = some y,
    fun i H v H' => ∃ T x y, v = .ref T ∧ H T = none ∧ H' = upd H T (.tup [x, y]) ∧ (∀ xs, u1.At K H xs → xs[i]? = some x) ∧ ∀ ys, u2.At K H ys → ys[i]? = some y,
    fun i H => ∃ xs ys : List V, u1.At K H xs ∧ u2.At K H ys ∧ (xs.length ≤ i ∨ ys.length ≤ i)⟩
theorem turn_zipS {P : Program} {w : World} {K : PySem.W.Frag} {elts : List Expr} {kk : Nat} {tpos : Pos} (u1 u2 : Src) (t1 t2 : Tok) {z TI TO i1 i2 : Addr} (S : ZipSep2 z TI TO i1 i2 (u1.fp i1) (u2.fp i2)) (n1 : u1.ne i1) (n2 : u2.ne i2) (h12 : i1 ≠ i2) :
    Turn P w K (.Tuple elts kk tpos) (ItZ K u1 u2) [z, TI, TO, i1, i2] z (fun i h => IsZip h z TI TO .none ∧ IsTupOf2 h TI (.ref i1) (.ref i2) ∧ (∃ x y, IsTupOf2 h TO x y) ∧ u1.It t1 i1 i h ∧ u2.It t2 i2 i h) where
  mem := by simp
  obj := fun i h st c hc => by
    obtain ⟨hz, hTI, ⟨x, y, hTO⟩, h1, h2⟩ := st
    have e' : c = z ∨ c = TI ∨ c = TO ∨ c = i1 ∨ c = i2 := by simpa using hc
    rcases e' with q | q | q | q | q
    · rw [q]; exact ⟨_, hz, fun v q => nomatch q⟩
    · rw [q]; exact ⟨_, hTI, fun v q => nomatch q⟩
    · rw [q]; exact ⟨_, hTO, fun v q => nomatch q⟩
    · rw [q]; exact Src.it_obj h1
    · rw [q]; exact Src.it_obj h2
  keep := fun i h h' st k => by
    obtain ⟨hz, hTI, ⟨x, y, hTO⟩, h1, h2⟩ := st
    exact ⟨k z (by simp) _ hz, k TI (by simp) _ hTI, ⟨x, y, k TO (by simp) _ hTO⟩, Src.it_keep h1 fun o q => k i1 (by simp) o q, Src.it_keep h2 fun o q => k i2 (by simp) o q⟩
  item := by
    intro X hP hw hK hc i pins s σ H E I hf st hg
    subst hP hw hK
    obtain ⟨hz, hTI, ⟨x0, y0, hTO⟩, h1, h2⟩ := st
    obtain ⟨xs, ys, x, y, hqx, hqy, hx, hy⟩ := hg
    obtain ⟨P1, S1, D1, a1, b1, c1⟩ := Src.draw I (I.ok.hd hc) hqx h1 n1
    obtain ⟨P2, S2, D2, a2, b2, c2⟩ := Src.draw I (I.ok.hd hc) hqy h2 n2
    have hzl : z < s.heap.objs.size := Heap.lt_size hz
    refine wpAny_pyNext_zipD2_item S D1 D2 hz hTI hTO a1 a2 (List.getElem?_eq_some_iff.mp hx).1 (List.getElem?_eq_some_iff.mp hy).1 fun v1 v2 h' tk p1 p2 z' TO' k1 k2 hT hsz hk => ?_
    obtain ⟨x', hx', ru⟩ := b1 _ _ p1
    obtain ⟨y', hy', ru2⟩ := b2 _ _ p2
    rw [hx] at hx'
    rw [hy] at hy'
    cases hx'
    cases hy'
    refine ⟨_, rfl, wpAny_letOwnedTupleGo_zip (s := { s with heap := h', toks := tk }) z' fun h'' z'' sb => ?_⟩
    have hT2 : h''.get? s.heap.objs.size = some { cls := .type "tuple", data := .seq #[v1, v2] } := (sb.2 _ (Nat.ne_of_gt hzl)).trans hT
    have new : ObjOk X.prog X.w (upd H s.heap.objs.size (.tup [x, y])) h'' s.heap.objs.size (.tup [x, y]) :=
      ⟨by show 2 ≤ sizeLine; decide, [v1, v2], .cons ru (.cons ru2 .nil), ⟨_, hT2, rfl, _, rfl⟩⟩
    have I1 : Inv X pins σ (upd H s.heap.objs.size (.tup [x, y])) { s with heap := h'', toks := tk } :=
      I.turnedNew (t' := tk) (ch := [z, TI, TO, i1, i2]) (fun c o hb q => (sb.2 c (fun q' => hb (by simp [q']))).trans (hk c o (fun q' => hb (by simp [q'])) (fun q' => hb (by simp [q'])) (fun q' => hb (by simp [q'])) (fun q' => hb (by simp [q'])) q)) hf (Nat.le_refl _) new
    refine ⟨.ref s.heap.objs.size, _, I1, rfl, ⟨_, x, y, rfl, I.hok.fresh (Nat.le_refl _), rfl, fun l hl => by rw [Src.inj I hl hqx]; exact hx, fun l hl => by rw [Src.inj I hl hqy]; exact hy⟩, ⟨z'', ?_, ⟨v1, v2, ?_⟩, ?_, ?_⟩, fun c hcm => ?_⟩
    · exact (sb.2 _ S.TIz).trans (hk _ _ S.TIz S.TITO S.TIi1 S.TIi2 hTI)
    · exact (sb.2 _ S.TOz).trans TO'
    · exact Src.it_keep (c1 _ _ k1) fun o q => (sb.2 _ S.zi1.symm).trans q
    · exact Src.it_keep (c2 _ _ k2) fun o q => (sb.2 _ S.zi2.symm).trans q
    · have hlt : c < s.heap.objs.size := by
        have e' : c = z ∨ c = TI ∨ c = TO ∨ c = i1 ∨ c = i2 := by simpa using hcm
        rcases e' with q | q | q | q | q
        · rw [q]; exact hzl
        · rw [q]; exact Heap.lt_size hTI
        · rw [q]; exact Heap.lt_size hTO
        · rw [q]; obtain ⟨_, e1, _⟩ := Src.it_obj h1; exact Heap.lt_size e1
        · rw [q]; obtain ⟨_, e2, _⟩ := Src.it_obj h2; exact Heap.lt_size e2
      rw [upd_ne (Nat.ne_of_lt hlt)]
      exact (hf c hcm).1
  done := by
    intro X hP hw hK hc i pins s σ H E I hf st hg
    subst hP hw hK
    obtain ⟨hz, hTI, ⟨x0, y0, hTO⟩, h1, h2⟩ := st
    obtain ⟨xs, ys, hqx, hqy, hend⟩ := hg
    have fin : ∀ {m1 m2 : Nat} {P1 P2 : Nat → Value → Prop} {S1 S2 : Nat → Heap → Prop}, Draws X.prog X.w X.A.in1 i1 (u1.fp i1) m1 P1 S1 → Draws X.prog X.w X.A.in1 i2 (u2.fp i2) m2 P2 S2 → S1 i s.heap → S2 i s.heap → i ≤ m1 → i ≤ m2 → (i = m1 ∨ i = m2) → wpAny (model X.prog X.w) X.A (pyNext (.ref z)) (fun r s1 => r = none ∧ Inv X pins σ H s1) E s := fun D1 D2 a1 a2 l1 l2 le =>
      wpAny_pyNext_zipD2_end S D1 D2 hz hTI hTO a1 a2 l1 l2 le fun h' tk hk => ⟨rfl, I.turnedL (t' := tk) (ch := [z, TI, TO, i1, i2]) (fun c o hb q =>
        hk c o (fun q' => hb (by simp [q'])) (fun q' => hb (by simp [q'])) (fun q' => hb (by simp [q'])) (fun q' => hb (by simp [q'])) q) hf⟩
    by_cases hl1 : xs.length ≤ i
    · obtain ⟨S1, D1, a1⟩ := Src.drawEnd I (I.ok.hd hc) hqx h1 hl1
      by_cases hl2 : ys.length ≤ i
      · obtain ⟨S2, D2, a2⟩ := Src.drawEnd I (I.ok.hd hc) hqy h2 hl2
        exact fin D1 D2 a1 a2 (Nat.le_refl _) (Nat.le_refl _) (.inl rfl)
      · obtain ⟨P2, S2, D2, a2, _⟩ := Src.draw I (I.ok.hd hc) hqy h2 n2
        exact fin D1 D2 a1 a2 (Nat.le_refl _) (by omega) (.inl rfl)
    · have hl2 : ys.length ≤ i := by
        rcases hend with q | q
        · exact absurd q hl1
        · exact q
      obtain ⟨P1, S1, D1, a1, _⟩ := Src.draw I (I.ok.hd hc) hqx h1 n1
      obtain ⟨S2, D2, a2⟩ := Src.drawEnd I (I.ok.hd hc) hqy h2 hl2
      exact fin D1 D2 a1 a2 (by omega) (Nat.le_refl _) (.inr rfl)
  self := fun A i s Q E st h => wpAny_pyIter_zip st.1 h
def iZipS (K : PySem.W.Frag) (ta : TA) : TI := fun σ H R => ta σ H fun vs H1 => ∃ (u1 u2 : Src) (xs ys : List V), vs = [u1.v, u2.v] ∧ u1.At K H1 xs ∧ u2.At K H1 ys ∧ R (ItZ K u1 u2) H1
theorem pi_zipS {X : Cx} {e e2 : Expr} {ta : TA} {p pos tpos : Pos} {elts : List Expr} {kk : Nat} (hg : Gl X "zip") (hm : X.mg "zip" = none) (ha : PA X [e, e2] ta)
    (hs : starEach [e, e2] X.env = (false, eval e X.env) :: starEach [e2] X.env := by rfl) (hpl : (backTo pos (starEach [e2] X.env)).any (·.1) = false := by rfl) :
    PI X (.Tuple elts kk tpos) (.Call (.Name "zip" p) [e, e2] [] pos) (iZipS X.K ta) := by
  refine ⟨fun pins s σ H R I h => ?_⟩
  refine Call_ (ld_blt I hg hm PyProof.Rows.boot_zip (PyProof.Rows.callWith_type1 (thn (ha.run pos pins s σ H _ I h) fun us s1 ⟨vs, H1, I1, r1, q1⟩ => ?_) hs hpl))
  obtain ⟨u1, u2, xs, ys, ex, hqx, hqy, q⟩ := q1
  subst ex
  cases r1 with
  | cons r rr =>
    cases rr with
    | cons r' rr =>
      cases rr
      obtain ⟨t1, rfl⟩ := Src.val_of r
      obtain ⟨t2, rfl⟩ := Src.val_of r'
      have fresh5 : ∀ c, c ∈ [s1.heap.objs.size + 4, s1.heap.objs.size + 2, s1.heap.objs.size + 3, s1.heap.objs.size, s1.heap.objs.size + 1] → FpOk X pins H1 c := fun c hcm => by
        have e' : c = s1.heap.objs.size + 4 ∨ c = s1.heap.objs.size + 2 ∨ c = s1.heap.objs.size + 3 ∨ c = s1.heap.objs.size ∨ c = s1.heap.objs.size + 1 := by simpa using hcm
        have hle : s1.heap.objs.size ≤ c := by
          rcases e' with z | z | z | z | z
          · rw [z]; exact Nat.le_add_right _ _
          · rw [z]; exact Nat.le_add_right _ _
          · rw [z]; exact Nat.le_add_right _ _
          · rw [z]; exact Nat.le_refl _
          · rw [z]; exact Nat.le_add_right _ _
        exact I1.fpOk hle (I1.hok.fresh hle)
      obtain ⟨B1, hB1, b1⟩ := Src.begins (t := t1) I1 hqx
      obtain ⟨B2, hB2, b2⟩ := Src.begins (t := t2) I1 hqy
      have S := zip_sep2 (Src.rest_low I1 hqx) (Src.rest_low I1 hqy)
      rw [← Src.fp_eq, ← Src.fp_eq] at S
      refine zip_begins2 hB1 hB2 b1 b2 fun h' hz hTI hTO h1 h2 hsz hk => wpAny_pyIter_zip hz ?_
      have I2 : Inv X pins σ H1 { s1 with heap := h' } := I1.kept (t' := s1.toks) hk
      exact ⟨s1.heap.objs.size + 4, [s1.heap.objs.size + 4, s1.heap.objs.size + 2, s1.heap.objs.size + 3, s1.heap.objs.size, s1.heap.objs.size + 1], _, _, H1, rfl, I2, turn_zipS u1 u2 t1 t2 S (Src.low I1 hqx (Nat.le_refl _)) (Src.low I1 hqy (Nat.le_succ _)) (Nat.ne_of_lt (Nat.lt_succ_self _)), ⟨hz, hTI, ⟨_, _, hTO⟩, Src.it_start h1, Src.it_start h2⟩, fresh5, q⟩
/-! ### over the judgements -/
def txtD (z : Str) : List D := z.cps.toList.map fun c => .str ⟨#[c]⟩
def SrcD (W : OW) (d : D) (ds : List D) : Prop := AsL W d ds ∨ d = .tup ds ∨ ∃ z, d = .str z ∧ ds = txtD z
def srcOf : D → V → Src
  | .tup _, .ref a => .tup a
  | .str z, _ => .txt z
  | _, .ref a => .lst a
  | _, _ => .txt ⟨#[]⟩
theorem SrcD.lst {W : OW} {ds : List D} : SrcD W (.lst ds) ds := .inl .lst
theorem SrcD.tup {W : OW} {ds : List D} : SrcD W (.tup ds) ds := .inr (.inl rfl)
theorem SrcD.txt {W : OW} {z : Str} : SrcD W (.str z) (txtD z) := .inr (.inr ⟨z, rfl, rfl⟩)
theorem SeqF.src {W : OW} {d : D} {ds : List D} (h : SeqF d ds) : SrcD W d ds := by
  rcases h with rfl | rfl
  · exact .lst
  · exact .tup
theorem SrcD.at {K : PySem.W.Frag} {T : Tb} {G H : Hp} {W : OW} {d : D} {ds : List D} {v : V} (h : SrcD W d ds) (hk : Hk K T G W H) (r : Rp K G v d) : v = (srcOf d v).v ∧ ∃ vs, (srcOf d v).At K H vs ∧ Rps K G vs ds := by
  rcases h with h | rfl | ⟨z, rfl, rfl⟩
  · obtain ⟨a, vs, rfl, e, q⟩ := h.at hk r
    have es : srcOf d (.ref a) = .lst a := by
      rcases h with rfl | ⟨a', i, rfl, hi⟩ <;> rfl
    rw [es]
    exact ⟨rfl, vs, SqL.of e, q⟩
  · obtain ⟨a, vs, rfl, e, q⟩ := r.tup_inv
    exact ⟨rfl, vs, sqt_up hk e, q⟩
  · obtain rfl := r.str_inv
    refine ⟨rfl, _, rfl, ?_⟩
    have : ∀ l : List Nat, Rps K G (l.map fun c => V.str ⟨#[c]⟩) (l.map fun c => D.str ⟨#[c]⟩) := fun l => by
      induction l with
      | nil => exact .nil
      | cons c l ih => exact ih.cons (.str _)
    exact this _
section
variable {F : CF} {Γ : Ga} {W W1 W2 W3 : OW} {pos p tpos : Pos} {a b c e : Expr} {d d1 d2 d3 : D} {o : Out} {elts : List Expr} {kk : Nat}
theorem ei_enumS {ds : List D} (hg : GlS F "enumerate") (hm : F.mg "enumerate" = none) (h : EV F e Γ W (.ok d) W1) (hd : SrcD W1 d ds) (hs : ∀ env, starEach [e] env = [(false, eval e env)] := by intro _; rfl) :
    EI F (.Tuple elts kk tpos) (.Call (.Name "enumerate" p) [e] [] pos) Γ W (enumD ds) (fun W' => SrcD W' d ds) W1 :=
  fun G H σ R sl hk k => ⟨iEnumS F.K (cA F [e]), fun X hX => hX.K ▸ pi_enumS (hX.gl hg) (by rw [hX.mg]; exact hm) (cA_pa hX) (hs _), (ea_cons h ea_nil (fun env => by rw [hs]; rfl)) G H σ _ sl hk fun vs G1 H1 s1 rs => by
    obtain ⟨v, rfl, r1⟩ := rs.one
    obtain ⟨ev, vs, e1, q1⟩ := hd.at s1.hk r1
    refine ⟨srcOf d v, vs, by rw [← ev], e1, k _ G1 H1 s1 fun G' W' H' le hk' wk i => ?_⟩
    obtain ⟨_, vs', e2, q2⟩ := wk.at hk' (r1.mono le)
    refine ⟨fun d hd => ?_, fun hi => ⟨vs', e2, by rw [q2.1, ← enumD_len]; exact hi⟩⟩
    obtain ⟨x, hx, rfl⟩ := enumD_get hd
    obtain ⟨v, ev, rv⟩ := q2.get hx
    refine ⟨⟨vs', v, e2, ev⟩, fun y H'' q => ?_⟩
    obtain ⟨T, x', rfl, nT, rfl, f⟩ := q
    have := f vs' e2
    rw [ev] at this
    cases this
    exact ⟨hk'.junk nT, .inr ⟨T, _, _, rfl, upd_same, rfl, (Rps.nil.cons rv).cons (.int _)⟩⟩⟩
theorem ei_zipS {xs ys : List D} (hg : GlS F "zip") (hm : F.mg "zip" = none) (h : EA F [a, b] Γ W (.ok [d1, d2]) W1) (hd1 : SrcD W1 d1 xs) (hd2 : SrcD W1 d2 ys) (hs : ∀ env, starEach [a, b] env = (false, eval a env) :: starEach [b] env := by intro _; rfl) (hpl : ∀ env, (backTo pos (starEach [b] env)).any (·.1) = false := by intro _; rfl) :
    EI F (.Tuple elts kk tpos) (.Call (.Name "zip" p) [a, b] [] pos) Γ W (zipD xs ys) (fun W' => SrcD W' d1 xs ∧ SrcD W' d2 ys) W1 :=
  fun G H σ R sl hk k => ⟨iZipS F.K (cA F [a, b]), fun X hX => hX.K ▸ pi_zipS (hX.gl hg) (by rw [hX.mg]; exact hm) (cA_pa hX) (hs _) (hpl _), h G H σ _ sl hk fun vs G1 H1 s1 rs => by
    obtain ⟨v, w, rfl, r1, r2⟩ := rs.two
    obtain ⟨ev, vs, e1, q1⟩ := hd1.at s1.hk r1
    obtain ⟨ew, ws, e2, q2⟩ := hd2.at s1.hk r2
    refine ⟨srcOf d1 v, srcOf d2 w, vs, ws, by rw [← ev, ← ew], e1, e2, k _ G1 H1 s1 fun G' W' H' le hk' wk i => ?_⟩
    obtain ⟨_, vs', e1, q1⟩ := wk.1.at hk' (r1.mono le)
    obtain ⟨_, ws', e2, q2⟩ := wk.2.at hk' (r2.mono le)
    refine ⟨fun d hd => ?_, fun hi => ⟨vs', ws', e1, e2, ?_⟩⟩
    · obtain ⟨x, y, hx, hy, rfl⟩ := zipD_get hd
      obtain ⟨v, ev, rv⟩ := q1.get hx
      obtain ⟨w, ew, rw'⟩ := q2.get hy
      refine ⟨⟨vs', ws', v, w, e1, e2, ev, ew⟩, fun z H'' q => ?_⟩
      obtain ⟨T, x', y', rfl, nT, rfl, f, g⟩ := q
      have t1 := f vs' e1
      have t2 := g ws' e2
      rw [ev] at t1
      rw [ew] at t2
      cases t1
      cases t2
      exact ⟨hk'.junk nT, .inr ⟨T, _, _, rfl, upd_same, rfl, (Rps.nil.cons rw').cons rv⟩⟩
    · rw [zipD_len] at hi
      rw [q1.1, q2.1]
      omega⟩
end
end Sh
set_option Elab.async false
set_option linter.all false
set_option maxRecDepth 100000
set_option maxHeartbeats 1000000
set_option autoImplicit false
/-! ShKt: three names at once, tuple(range(..)), int(text), xs.remove, dicts changed, a def held by a name, slices of rows. -/
namespace Sh
open PySem PySem.Spec PyProof.Rows L2
section
variable {F : CF} {Γ : Ga} {W W1 W2 W3 W4 : OW} {pos p : Pos} {a b c e : Expr} {d d1 d2 d3 : D} {o : Out} {A : AE}
theorem Rps.three {K : PySem.W.Frag} {G : Hp} {vs : List V} {d d' d'' : D} (h : Rps K G vs [d, d', d'']) : ∃ v v' v'', vs = [v, v', v''] ∧ Rp K G v d ∧ Rp K G v' d' ∧ Rp K G v'' d'' := by
  obtain ⟨v, vs', rfl, r1, h⟩ := h.inv
  obtain ⟨v', v'', rfl, r2, r3⟩ := h.two
  exact ⟨v, v', v'', rfl, r1, r2, r3⟩
/-- a, b, c = x, y, z -/
theorem s1_par3 (i j l : Nat) {x y z : Str} {px py pz pt pt2 : Pos} {kt k2 : Nat} (hi : F.N[i]? = some x) (hj : F.N[j]? = some y) (hl : F.N[l]? = some z) (hij : i ≠ j) (hil : i ≠ l) (hjl : j ≠ l) (hx : F.sc.names.lookup x = some .local) (hy : F.sc.names.lookup y = some .local) (hz : F.sc.names.lookup z = some .local)
    (h : EAR F [a, b, c] Γ W (fun ds W' => ∃ d d' d'', ds = [d, d', d''] ∧ A.nx (((Γ.set i (some d)).set j (some d')).set l (some d'')) W'))
    (hw : ∀ env : Env, env.scope = F.sc → swappedStores [.Tuple [.Name x px, .Name y py, .Name z pz] kt pt] (.Tuple [a, b, c] k2 pt2) env = pure (some [x, y, z]))
    (hs : ∀ env, swapsWithSole [.Tuple [.Name x px, .Name y py, .Name z pz] kt pt] (.Tuple [a, b, c] k2 pt2) pos.line env = pure false := by intro _; rfl) : S1 F (.Assign [.Tuple [.Name x px, .Name y py, .Name z pz] kt pt] (.Tuple [a, b, c] k2 pt2) pos) Γ W A :=
  fun G H σ De sl hk k => ⟨tPar3 i j l (cA F [a, b, c]), fun X hX => ps_par3 hX.calm hX.nd (by rw [hX.N]; exact hi) (by rw [hX.N]; exact hj) (by rw [hX.N]; exact hl) hij hil hjl (by rw [hX.sc]; exact hx) (by rw [hX.sc]; exact hy) (by rw [hX.sc]; exact hz) (cA_pa hX.toSat) (hw _ hX.sc) (hs _),
    h G H σ _ sl hk fun ds W' vs G' H' ⟨d, d', d'', e1, hp⟩ s r => by
      subst e1
      obtain ⟨v, v', v'', rfl, r1, r2, r3⟩ := r.three
      exact ⟨v, v', v'', rfl, k.nx _ W' G' H' _ hp s ((((sl.mono s.le).put i r1).put j r2).put l r3)⟩⟩
/-- a tuple unpacked, its names cells or more than three -/
theorem s1_asgC {tg : Expr} (h : EVR F e Γ W (fun d W' => ∃ Γ' ts, EG F (SatS F) tg Γ d Γ' ts ∧ A.nx Γ' W')) (hw : ∀ env : Env, env.scope = F.sc → swappedStores [tg] e env = pure none) (hs : ∀ env, swapsWithSole [tg] e pos.line env = pure false := by intro _; rfl)
    (h1 : ∀ env, (assignEach [tg] env).map (·.2) = [assign tg env] := by intro _; rfl) : S1 F (.Assign [tg] e pos) Γ W A :=
  fun G H σ De sl hk k => ⟨tAsg (cE F e) (cG (SatS F) tg), fun X hX => ps_asg (cE_pe hX.toSat) (cG_pg hX) (hs _) (hw _ hX.sc) (h1 _),
    h G H σ _ sl hk fun d W' v G' H' ⟨Γ', ts, hg, hp⟩ s r => hg G' H' v σ _ (sl.mono s.le) s.hk.sub (.inl r) fun σ' sl' _ => k.nx Γ' W' G' H' σ' hp s sl'⟩
/-- tuple(range(n)) -/
def tTupRgF (te : L2.St → Hp → (Int → Int → Hp → Prop) → Prop) : TE := fun σ H Q => te σ H fun a b H1 => RgOk a b ∧ StepS.NewT (rgV a b) H1 Q
theorem pe_tupRgF {X : Cx} {te : L2.St → Hp → (Int → Int → Hp → Prop) → Prop} (hc : X.calm = true) (hg : Gl X "tuple") (hm : X.mg "tuple" = none) (he : PRg X e te) (na : starEach [e] X.env = (false, eval e X.env) :: starEach [] X.env := by rfl) : PE X (.Call (.Name "tuple" p) [e] [] pos) (tTupRgF te) := by
  refine ⟨fun pins s σ H Q I h => ?_⟩
  refine Call_ (ld_blt I hg hm boot_tuple (PyProof.Rows.callWith_type1 (args_cons (thn (he pins s σ H _ I h) fun x s1 ⟨r, a, b, t, u, v, H1, ex, hr, I1, ok, q⟩ => args_nil ?_) na) na))
  subst ex
  obtain ⟨b1, b2, b3, b4, b5⟩ := ok
  refine call_tuple_range (n := (b - a).toNat) (I1.ok.hd hc) hr (small_one b1 b2 b3 b4) (rangeSize_nat a b) b5 fun h' tk acc hk hi => ?_
  have I2 : Inv X pins σ H1 { s1 with heap := h', toks := tk } := I1.kept hk
  have := q.go I2 (vals_rg hi) (by rw [rgV_length, sizeLine_eq]; omega)
  rw [Array.toArray_toList] at this
  exact this
theorem ev_tupRg1 {n : Int} {p2 p3 : Pos} (hg : GlS F "tuple") (hm : F.mg "tuple" = none) (hg2 : GlS F "range") (hm2 : F.mg "range" = none) (ha : EV F a Γ W (.ok (.int n)) W1) (hr : RgOk 0 n)
    (na : ∀ env, starEach [a] env = (false, eval a env) :: starEach [] env := by intro _; rfl) (nb : ∀ env, starEach [.Call (.Name "range" p2) [a] [] p3] env = (false, eval (.Call (.Name "range" p2) [a] [] p3) env) :: starEach [] env := by intro _; rfl) :
    EV F (.Call (.Name "tuple" p) [.Call (.Name "range" p2) [a] [] p3] [] pos) Γ W (.ok (.tup (rngD 0 n.toNat))) W1 :=
  fun G H σ Q sl hk k => ⟨tTupRgF (tRg1 (cE F a)), fun X hX => pe_tupRgF hX.calm (hX.gl hg) (by rw [hX.mg]; exact hm) (prg_1 (hX.gl hg2) (by rw [hX.mg]; exact hm2) (cE_pe hX) (na _)) (nb _),
    ha G H σ _ sl hk fun x G1 H1 s1 r1 => ⟨n, r1.int_inv, hr, (k.step s1).newT s1.hk (by
      have := rps_rng F.K G1 0 n
      rw [Int.sub_zero] at this
      exact this)⟩⟩
/-- int(text) -/
theorem ev_intT {z : Str} {n : Int} (hg : GlS F "int") (hm : F.mg "int" = none) (ha : EV F a Γ W (.ok (.str z)) W1) (hz : PySem.intText? z = some n) (hl : z.length ≤ 640) (he : ∀ env, starEach [a] env = (false, eval a env) :: starEach [] env := by intro _; rfl) : EV F (.Call (.Name "int" p) [a] [] pos) Γ W (.ok (.int n)) W1 :=
  ev_callTy (fun X _ => call_int_str) hg hm (by decide +kernel) (ea_cons ha ea_nil he) (he := he) fun G H vs Q hk r k => by
    obtain ⟨v, rfl, r1⟩ := r.one
    exact ⟨z, n, by rw [r1.str_inv], hz, hl, k _ G H (.refl hk) (.int _)⟩
theorem idx_no {ns : List Int} {k : Int} : ∀ m : Nat, m < ns.idxOf k → ns[m]? ≠ some k := fun m hm h => by
  obtain ⟨hm2, e⟩ := List.getElem?_eq_some_iff.mp h
  have := beq_eq_false_iff_ne.mp (List.not_of_lt_findIdx hm)
  exact this e
/-- xs.remove(k) -/
theorem evr_remove {i : Nat} {q : Addr} {ns : List Int} {k : Int} {apos : Pos} {P : D → OW → Prop} (ho : EV F a Γ W (.ok (.ptr q)) W1) (he : EV F e Γ W1 (.ok (.int k)) W2) (h1 : W1[i]? = some (q, .lst (ns.map .int))) (h2 : W2[i]? = some (q, .lst (ns.map .int))) (hm : k ∈ ns) (hp : P .non (W2.set i (q, .lst ((ns.eraseIdx (ns.idxOf k)).map .int))))
    (hbase : ∀ env, attributeBase a "remove" env (eval a env) = eval a env := by intro _; rfl)
    (hfew : ∀ env, ((backTo pos (starEach [e] env)).all (fun x => !x.1) && (backToKw pos (keywordEach [] env)).all (fun x => x.1.isSome) && decide ([e].length + ([] : List Keyword).length + (if ([] : List Keyword).isEmpty then 0 else 1) < 30)) = true := by intro _; rfl)
    (hline : (apos.endLine == pos.line) = true := by rfl) (hs : ∀ env, starEach [e] env = (false, eval e env) :: starEach [] env := by intro _; rfl) : EVR F (.Call (.Attribute a "remove" apos) [e] [] pos) Γ W P :=
  fun G H σ Q sl hk kk => ⟨tBM F.K "list" rRemI (cE F a) (cA F [e]), fun X hX => hX.K ▸ pe_bm PySem.F.plainAttrs_list PySem.F.slot_list_remove PySem.F.type_list_remove mt_remove (cE_pe hX) (cA_pa hX) (hbase _) (hfew _) hline (hs _) rfl,
    ho G H σ _ sl hk fun x G1 H1 s1 r1 => ⟨ty_list (F := F) (.own i h1) G1 H1 x s1.hk r1, (ea_cons he ea_nil hs) G1 H1 σ _ (sl.mono s1.le) s1.hk fun vs G2 H2 s2 rs => by
      obtain ⟨v, rfl, rv⟩ := rs.one
      obtain rfl := r1.ptr_inv
      obtain rfl := rv.int_inv
      obtain ⟨_, ob, eo, ro⟩ := s2.hk.own _ (List.mem_of_getElem? h2)
      obtain ⟨ws, rfl, ro⟩ := ro.lst_inv
      obtain rfl := ro.ints
      have eo' : H2 q = some (.lst (ns.map V.int)) := eo
      exact ⟨q, ns, k, ns.idxOf k, rfl, rfl, eo, (idx_first hm).1, idx_no, kk _ _ _ _ _ hp ((s1.trans s2).trans (s2.hk.write h2 (o' := .lst ((ns.eraseIdx (ns.idxOf k)).map V.int)) (w' := .lst ((ns.eraseIdx (ns.idxOf k)).map D.int)) (Rps.of_ints _) fun c z e' => by
        rw [eo'] at e'
        cases e')) .non⟩⟩⟩
/-- k in d -/
theorem dget_of {K : PySem.W.Frag} {T : Tb} {G H : Hp} {d : D} {ds : List (Key × D)} {v : V} {q : Key} (h : AsK W d ds) (hk : Hk K T G W H) (r : Rp K G v d) : ∃ a kvs, v = .ref a ∧ DGet H a (kV q) (valV kvs q) ∧ (valV kvs q).isSome = (valD ds q).isSome := by
  obtain ⟨a, kvs, rfl, e, rk⟩ := h.at hk r
  refine ⟨a, kvs, rfl, .inl ⟨kvs, q, e, rfl, rfl⟩, ?_⟩
  rcases rk.val q with ⟨e1, e2⟩ | ⟨d', v', e1, e2, _⟩
  · rw [e1, e2]
    rfl
  · rw [e1, e2]
    rfl
theorem et_din {ds : List (Key × D)} {q : Key} (ha : EV F a Γ W (.ok (kD q)) W1) (hb : EV F b Γ W1 (.ok d) W2) (h : AsK W2 d ds) (hm : behindInMarks .In b = false := by first | exact nobehind _ (by decide) (by decide) | rfl) : ET F (.Compare a [.In] [b] pos) Γ W (.ok (valD ds q).isSome) W2 :=
  fun G H σ Q sl hk k => ⟨tB (tDIn (cE F a) (cE F b)), fun X hX => pt_cmp (pc_din (by have := hX.un; omega) (cE_pe hX) (cE_pe hX)) hm,
    ha G H σ _ sl hk fun x G1 H1 s1 r1 => hb G1 H1 σ _ (sl.mono s1.le) s1.hk fun y G2 H2 s2 r2 => by
      obtain ⟨c, kvs, rfl, g, e⟩ := dget_of (q := q) h s2.hk r2
      refine ⟨c, valV kvs q, rfl, by rw [r1.key_inv]; exact g, _, rfl, ?_⟩
      rw [e]
      exact k G2 H2 (s1.trans s2)⟩
theorem et_dnotin {ds : List (Key × D)} {q : Key} (ha : EV F a Γ W (.ok (kD q)) W1) (hb : EV F b Γ W1 (.ok d) W2) (h : AsK W2 d ds) (hm : behindInMarks .NotIn b = false := by first | exact nobehind _ (by decide) (by decide) | rfl) : ET F (.Compare a [.NotIn] [b] pos) Γ W (.ok (!(valD ds q).isSome)) W2 :=
  fun G H σ Q sl hk k => ⟨tB (tDNotIn (cE F a) (cE F b)), fun X hX => pt_cmp (pc_dnotin (by have := hX.un; omega) (cE_pe hX) (cE_pe hX)) hm,
    ha G H σ _ sl hk fun x G1 H1 s1 r1 => hb G1 H1 σ _ (sl.mono s1.le) s1.hk fun y G2 H2 s2 r2 => by
      obtain ⟨c, kvs, rfl, g, e⟩ := dget_of (q := q) h s2.hk r2
      refine ⟨c, valV kvs q, rfl, by rw [r1.key_inv]; exact g, _, rfl, ?_⟩
      rw [e]
      exact k G2 H2 (s1.trans s2)⟩
/-- d[k] = e -/
theorem s1_dput {i : Nat} {q : Addr} {ds : List (Key × D)} {kk : Key} {so sk : Expr} {p2 : Pos} (he : EV F e Γ W (.ok d) W1) (ho : EV F so Γ W1 (.ok (.ptr q)) W2) (hk' : EV F sk Γ W2 (.ok (kD kk)) W3) (hi : W3[i]? = some (q, .dK ds)) (hz : ds.length < sizeLine) (hA : A.nx Γ (W3.set i (q, .dK (putD ds kk d))))
    (hs : ∀ env, swapsWith e (some (.Subscript so sk p2)) pos.line env = pure false := by intro _; rfl) : S1 F (.Assign [.Subscript so sk p2] e pos) Γ W A :=
  fun G H σ De sl hk k => ⟨sDPut (cE F so) (cE F sk) (cE F e), fun X hX => ps_dput (by have := hX.toSat.un; omega) (cE_pe hX.toSat) (cE_pe hX.toSat) (cE_pe hX.toSat) (hs _),
    he G H σ _ sl hk fun v G1 H1 s1 r1 => ho G1 H1 σ _ (sl.mono s1.le) s1.hk fun x G2 H2 s2 r2 => hk' G2 H2 σ _ (sl.mono (s1.le.trans s2.le)) s2.hk fun y G3 H3 s3 r3 => by
      obtain rfl := r2.ptr_inv
      obtain ⟨_, ob, eo, ro⟩ := s3.hk.own _ (List.mem_of_getElem? hi)
      obtain ⟨ws, rfl, ro⟩ := ro.dK_inv
      have eo' : H3 q = some (.dK ws) := eo
      have st := (s1.trans s2).trans s3
      have st2 := st.trans (s3.hk.write hi (o' := .dK (putK ws kk v)) (w' := .dK (putD ds kk d)) (ro.put (r1.mono (s2.le.trans s3.le))) fun c z e' => by
        rw [eo'] at e'
        cases e')
      rw [r3.key_inv]
      exact ⟨q, _, rfl, .k eo (by rw [ro.len]; exact hz), k.nx _ _ _ _ _ hA st2 (sl.mono st.le)⟩⟩
end
/-- the def at f keeps the law S -/
structure FdAt (P : Program) (w : World) (K : PySem.W.Frag) (mg : Str → Option Value) (base : Heap) (T : Tb) (f : Addr) (k : Nat) (n : Nat) (S : Law) : Prop where
  ex : ∃ (fd : FuncData) (ps : List Str), PySem.W.keepIn K (.ref f) = true ∧ Binds K fd ps [] ∧ ps.length = n ∧ FnOk P w K mg base (L2.CX P w) k f fd ps (spOf K T S)
theorem Fd.at {P : Program} {w : World} {K : PySem.W.Frag} {mg : Str → Option Value} {base : Heap} {T : Tb} {x : Str} {k n : Nat} {S : Law} (h : Fd P w K mg base T x k n S) : ∃ f, mg x = some (.ref f) ∧ FdAt P w K mg base T f k n S := by
  obtain ⟨f, fd, ps, h1, h2, h3, h4, h5⟩ := h.ex
  exact ⟨f, h1, fd, ps, h2, h3, h4, h5⟩
section
variable {F : CF} {Γ : Ga} {W W1 W2 W3 W4 : OW} {pos p : Pos} {a b c e : Expr} {d d1 d2 d3 : D} {o : Out} {A : AE}
/-- f(..), f a name that holds a def -/
theorem ev_callV {x : Str} (i : Nat) {f : Addr} {k : Nat} {es : List Expr} {ds : List D} {S : Law} {Wf Wf' Wr : OW} (h : FdAt F.P F.w F.K F.mg F.base F.T f k (e :: es).length S) (hkk : k ≤ F.k) (hN : F.N[i]? = some x) (hv : VisS F.sc x) (hΓ : Γ[i]? = some (some (.ptr f))) (ha : EA F (e :: es) Γ W (.ok ds) W1) (hw : W1.Perm (Wf ++ Wr)) (hS : S ds Wf o Wf') (hw' : (Wf' ++ Wr).Perm W2)
    (hdb : (x == ("__debug__" : Str)) = false := by decide) (hcd : (x == ("__classdict__" : Str)) = false := by decide) (he : ∀ env, starEach (e :: es) env = (false, eval e env) :: starEach es env := by intro _; rfl) (hpl : ∀ env, (backTo pos (starEach es env)).any (·.1) = false := by intro _; rfl) : EV F (.Call (.Name x p) (e :: es) [] pos) Γ W o W2 := by
  obtain ⟨fd, ps, h2, h3, h4, h5⟩ := h.ex
  refine fun G H σ Q sl hk kt => ⟨ItX.tCallV i f (fun vs H Q E => spOf F.K F.T S (vs ++ []) H Q E) F.E (cA F (e :: es)), fun X hX => ItX.pe_callV ((FnOk.cast h5 hX.P hX.w hX.K hX.mg hX.base).raw (by rw [hX.K]; exact h3) .nil) (hX.room.mono hkk) (by rw [hX.K]; exact h2) hX.pass (by rw [hX.N]; exact hN) (by show Vis _ _; rw [hX.sc]; exact hv) (cA_pa hX) hdb hcd (he _) (hpl _), ?_⟩
  obtain ⟨v, ev, rv⟩ := sl.2 i _ hΓ
  refine ⟨by rw [ev, rv.ptr_inv], ha G H σ _ sl hk fun vs G1 H1 s1 r1 => ?_⟩
  show spOf F.K F.T S (vs ++ []) H1 Q F.E
  rw [List.append_nil]
  have hk2 := s1.hk.perm hw
  have back : ∀ {G' H'}, Step F.K F.T G1 Wf H1 G' Wf' H' → Step F.K F.T G W H G' W2 H' := fun st => s1.trans ((st.more hk2).perm hw.symm hw')
  refine ⟨G1, Wf, ds, o, Wf', hk2.less (List.sublist_append_left _ _), r1, hS, ?_⟩
  cases o with
  | ok d => exact fun v G' H' st r => kt v G' H' (back st) r
  | er c => exact fun G' H' st => kt G' H' (back st)
/-- row[lo:hi] -/
theorem ev_sliceSeq {ds : List D} {lo hi : Option Expr} {l h' : Option Int} {p2 : Pos} (he : EV F e Γ W (.ok d) W1) (hl : EO F lo Γ W1 l W2) (hh : EO F hi Γ W2 h' W3) (hd : SeqF d ds) : ∃ d', SeqF d' (cutD ds l h') ∧ EV F (.Subscript e (.Slice lo hi none p2) pos) Γ W (.ok d') W3 := by
  rcases hd with rfl | rfl
  · exact ⟨_, .lst, EN.ev (en_slice he hl hh .lst)⟩
  · exact ⟨_, .tup, ev_sliceT he hl hh⟩
end
end Sh
set_option Elab.async false
set_option linter.all false
set_option maxRecDepth 100000
set_option maxHeartbeats 1000000
set_option autoImplicit false
/-! ShLt: slices of a row, of the row's own kind. -/
namespace Sh
open PySem PySem.Spec PyProof.Rows L2
def likeD : D → List D → D
  | .lst _, xs => .lst xs
  | _, xs => .tup xs
theorem SeqF.like {d : D} {ds : List D} (h : SeqF d ds) (xs : List D) : SeqF (likeD d xs) xs := by
  rcases h with rfl | rfl
  · exact .lst
  · exact .tup
/-- items, none of them a pair just made -/
def Items (ds : List D) : Prop := ∀ d ∈ ds, ∀ l, d = .pr l → False
theorem items_strs (zs : List Str) : Items (zs.map .str) := fun d hd l e => by
  obtain ⟨z, _, rfl⟩ := List.mem_map.mp hd
  cases e
theorem items_ints (zs : List Int) : Items (zs.map .int) := fun d hd l e => by
  obtain ⟨z, _, rfl⟩ := List.mem_map.mp hd
  cases e
theorem Items.sub {xs ys : List D} (h : Items ys) (hs : ∀ d ∈ xs, d ∈ ys) : Items xs := fun d hd => h d (hs d hd)
theorem Items.at {xs : List D} {i : Nat} {d : D} (h : Items xs) (e : xs[i]? = some d) : ∀ l, d = .pr l → False := h d (List.mem_of_getElem? e)
section
variable {F : CF} {Γ : Ga} {W W1 W2 W3 W4 : OW} {pos p2 : Pos} {e st : Expr} {d : D} {ds : List D} {lo hi : Option Expr} {l h' : Option Int}
theorem ev_sliceQ (he : EV F e Γ W (.ok d) W1) (hl : EO F lo Γ W1 l W2) (hh : EO F hi Γ W2 h' W3) (hd : SeqF d ds) : EV F (.Subscript e (.Slice lo hi none p2) pos) Γ W (.ok (likeD d (cutD ds l h'))) W3 := by
  rcases hd with rfl | rfl
  · exact EN.ev (en_slice he hl hh .lst)
  · exact ev_sliceT he hl hh
/-- row[::-1] -/
theorem ev_revQ (he : EV F e Γ W (.ok d) W1) (hs : EO F (some st) Γ W1 (some (-1)) W4) (hd : SeqF d ds) (hz : ds.length ≤ sizeLine) : EV F (.Subscript e (.Slice none none (some st) p2) pos) Γ W (.ok (likeD d ds.reverse)) W4 := by
  rcases hd with rfl | rfl
  · have := (en_step (pos := pos) (p2 := p2) he eo_none eo_none hs (.lst (ds := ds)) (by decide)).ev
    rw [StepS.pickL_rev] at this
    exact this
  · have := ev_stepT (pos := pos) (p2 := p2) he eo_none eo_none hs (by decide) (by rw [StepS.pickT_rev, List.length_reverse]; exact hz) (fun q => by
      simp only [Bool.and_eq_true, beq_iff_eq] at q
      exact absurd q.1.2 (by decide))
    rw [StepS.pickT_rev] at this
    exact this
theorem eo_neg1 {p p2 : Pos} {j : Nat} : EO F (some (.UnaryOp .USub (.Constant (.int 1) j p) p2)) Γ W (some (-1)) W := eo_some (ev_neg ev_int)
/-- row[i::n] -/
theorem ev_stepQ {i n : Nat} (he : EV F e Γ W (.ok d) W1) (hl : EO F lo Γ W1 (some (i : Int)) W2) (hs : EO F (some st) Γ W2 (some (n : Int)) W4) (hd : SeqF d ds) (h0 : 0 < n) (hz : ds.length ≤ sizeLine) : EV F (.Subscript e (.Slice lo none (some st) p2) pos) Γ W (.ok (likeD d (StepS.strided ds i n))) W4 := by
  rcases hd with rfl | rfl
  · have := (en_step (pos := pos) (p2 := p2) he hl eo_none hs (.lst (ds := ds)) (by intro z; injection z with z; omega)).ev
    rw [StepS.pickL_from ds i n h0] at this
    exact this
  · have := ev_stepT (pos := pos) (p2 := p2) he hl eo_none hs (by omega) (by rw [StepS.pickT_from ds i n h0]; exact Nat.le_trans (strided_len ds i n h0) hz) (fun q => by
      rw [StepS.pickT_from ds i n h0]
      simp only [Bool.and_eq_true, beq_iff_eq] at q
      obtain ⟨⟨q1, q2⟩, _⟩ := q
      have n1 : n = 1 := by omega
      subst n1
      by_cases hi : i = 0
      · subst hi
        exact strided_one ds
      · have e0 : ds = [] := by
          cases ds with
          | nil => rfl
          | cons x r =>
            exfalso
            unfold Builtin.Slice.sliceAdjust at q1
            simp only [List.length_cons] at q1
            rw [if_neg (show ¬ ((1 : Nat) : Int) < 0 by omega)] at q1
            rw [if_neg (show ¬ ((i : Nat) : Int) < 0 by omega)] at q1
            simp at q1
            omega
        subst e0
        exact List.eq_nil_of_length_eq_zero (Nat.le_zero.mp (strided_len ([] : List D) i 1 (by decide))))
    rw [StepS.pickT_from ds i n h0] at this
    exact this
end
/-- a row of texts, or of ints -/
def Row (ds : List D) : Prop := (∀ d ∈ ds, ∃ z, d = .str z ∧ PyData.strOk z = true) ∨ ∀ d ∈ ds, ∃ n, d = .int n
theorem Row.items {ds : List D} (h : Row ds) : Items ds := fun d hd l e => by
  rcases h with h | h
  · obtain ⟨z, e2, _⟩ := h d hd
    rw [e] at e2
    cases e2
  · obtain ⟨z, e2⟩ := h d hd
    rw [e] at e2
    cases e2
theorem Row.sub {xs ys : List D} (h : Row ys) (hs : ∀ d ∈ xs, d ∈ ys) : Row xs := by
  rcases h with h | h
  · exact .inl fun d hd => h d (hs d hd)
  · exact .inr fun d hd => h d (hs d hd)
theorem Row.strs {zs : List Str} (h : ∀ z ∈ zs, PyData.strOk z = true) : Row (zs.map .str) := .inl fun d hd => by
  obtain ⟨z, hz, rfl⟩ := List.mem_map.mp hd
  exact ⟨z, rfl, h z hz⟩
theorem Row.ints (ns : List Int) : Row (ns.map .int) := .inr fun d hd => by
  obtain ⟨z, hz, rfl⟩ := List.mem_map.mp hd
  exact ⟨z, rfl⟩
theorem Row.as {ds : List D} (h : Row ds) : (∃ zs : List Str, ds = zs.map .str ∧ ∀ z ∈ zs, PyData.strOk z = true) ∨ ∃ ns : List Int, ds = ns.map .int := by
  rcases h with h | h
  · refine .inl ?_
    induction ds with
    | nil => exact ⟨[], rfl, fun z hz => by cases hz⟩
    | cons d ds ih =>
      obtain ⟨z, rfl, hz⟩ := h d List.mem_cons_self
      obtain ⟨zs, rfl, hzs⟩ := ih fun d hd => h d (List.mem_cons_of_mem _ hd)
      exact ⟨z :: zs, rfl, fun y hy => by
        rcases List.mem_cons.mp hy with rfl | hy
        · exact hz
        · exact hzs y hy⟩
  · refine .inr ?_
    induction ds with
    | nil => exact ⟨[], rfl⟩
    | cons d ds ih =>
      obtain ⟨z, rfl⟩ := h d List.mem_cons_self
      obtain ⟨zs, rfl⟩ := ih fun d hd => h d (List.mem_cons_of_mem _ hd)
      exact ⟨z :: zs, rfl⟩
section
variable {F : CF} {Γ : Ga} {W W1 W2 W3 W4 : OW} {pos p2 : Pos} {e st : Expr} {d : D} {ds : List D}
theorem nil_strs {zs : List Str} : decide (zs = []) = decide (zs.map D.str = []) := by cases zs <;> rfl
theorem nil_ints {zs : List Int} : decide (zs = []) = decide (zs.map D.int = []) := by cases zs <;> rfl
/-- row == [], row != [] -/
theorem Row.cmpNil (h : Row ds) : CmpR W .NotEq (.lst ds) (.lst []) (!decide (ds = [])) := by
  rcases h.as with ⟨zs, rfl, hz⟩ | ⟨ns, rfl⟩
  · exact .neD (Py.strsL zs) (Py.strsL []) (shaped_strsL hz) (shaped_strsL (by simp)) (by rw [enc_str.list.eq, nil_strs])
  · exact .neD (Py.intsL ns) (Py.intsL []) (shaped_intsL ns) (shaped_intsL []) (by rw [enc_int.list.eq, nil_ints])
theorem Row.eqNil (h : Row ds) : CmpR W .Eq (.lst ds) (.lst []) (decide (ds = [])) := by
  rcases h.as with ⟨zs, rfl, hz⟩ | ⟨ns, rfl⟩
  · exact .eqD (Py.strsL zs) (Py.strsL []) (shaped_strsL hz) (shaped_strsL (by simp)) (by rw [enc_str.list.eq, nil_strs])
  · exact .eqD (Py.intsL ns) (Py.intsL []) (shaped_intsL ns) (shaped_intsL []) (by rw [enc_int.list.eq, nil_ints])
end
theorem cutD_mid {α : Type} (xs : List α) (a b : Nat) : cutD xs (some (a : Int)) (some (b : Int)) = (xs.drop a).take (b - a) := by
  unfold cutD
  rw [show HT.sIx xs.length 0 (some (a : Int)) = min a xs.length from HT.sIx_nat xs.length 0 a, show HT.sIx xs.length xs.length (some (b : Int)) = min b xs.length from HT.sIx_nat xs.length xs.length b]
  by_cases h : a ≤ xs.length
  · rw [Nat.min_eq_left h]
    by_cases h2 : b ≤ xs.length
    · rw [Nat.min_eq_left h2]
    · rw [Nat.min_eq_right (by omega), List.take_of_length_le (by rw [List.length_drop]; exact Nat.le_refl _), List.take_of_length_le (by rw [List.length_drop]; omega)]
  · have e : min a xs.length = xs.length := Nat.min_eq_right (by omega)
    rw [e, List.drop_of_length_le (Nat.le_refl _), List.drop_of_length_le (show xs.length ≤ a by omega)]
    simp
end Sh
set_option Elab.async false
set_option linter.all false
set_option maxRecDepth 100000
set_option maxHeartbeats 1000000
set_option autoImplicit false
/-! ShMt: comprehensions whose turns change what is owned. -/
namespace Sh
open PySem PySem.Spec PyProof.Rows L2
/-- a text times a count -/
def repS (z : Str) (n : Nat) : Str := ⟨(List.replicate n z.cps).foldl (· ++ ·) #[]⟩
theorem op_mul_str {X : Cx} : OpR X (binaryOp .Mult) (fun x y H Q => ∃ (i : Str) (n : Nat), x = .str i ∧ y = .int (n : Nat) ∧ 2 ≤ n ∧ n ≤ 1000000 ∧ 0 < i.length ∧ i.length * n ≤ 1000000 ∧ (repS i n).length ≤ 1000000 ∧ Q (.str (repS i n)) H) := by
  intro pins s σ H x y v u Q I rx ry h
  obtain ⟨i, n, rfl, rfl, h2, h6, h0, hz, hl, q⟩ := h
  obtain ⟨t, rfl⟩ := rx
  obtain ⟨t', rfl⟩ := ry
  refine PySem.P.mul_str ?_ ?_ ?_ ?_
  · have h1 : ¬ ((n : Int) < -(2 ^ 63 : Int)) := by omega
    have h2 : ¬ ((n : Int) ≥ 2 ^ 63) := by omega
    rw [decide_eq_false h1, decide_eq_false h2]
    rfl
  · intro _ _
    have : ((2 : Int) ^ 63 - 1) / (n : Int) ≥ 1000000 := by
      refine (Int.le_ediv_iff_mul_le (by omega)).mpr ?_
      omega
    have : i.length ≤ i.length * n := Nat.le_mul_of_pos_right _ (by omega)
    omega
  · intro _ _
    rw [Int.toNat_natCast]
    have hs : 1000000 ≤ sizeLine := by decide
    unfold Builtin.Str.tooLong
    simp
    omega
  · have h1 : ¬ ((n : Nat) : Int) < 1 := by omega
    have e1 : (((n : Nat) : Int) == 1) = false := beq_eq_false_iff_ne.mpr (by omega)
    have e0 : (i.length == 0) = false := beq_eq_false_iff_ne.mpr (by omega)
    rw [if_neg h1, e1, e0, Int.toNat_natCast]
    exact ⟨Nat.le_trans hl (by decide), .str (repS i n), H, I.tok _, ⟨_, rfl⟩, q⟩
theorem ev_repS {F : CF} {Γ : Ga} {W W1 W2 : OW} {pos : Pos} {a b : Expr} {z : Str} {n : Nat} (ha : EV F a Γ W (.ok (.str z)) W1) (hb : EV F b Γ W1 (.ok (.int (n : Nat))) W2) (h2 : 2 ≤ n) (h6 : n ≤ 1000000) (h0 : 0 < z.length) (hz : z.length * n ≤ 1000000) (hl : (repS z n).length ≤ 1000000) : EV F (.BinOp a .Mult b pos) Γ W (.ok (.str (repS z n))) W2 :=
  ev_op (fun X _ => op_mul_str) ha hb fun G H x y Q hk rx ry k => ⟨z, n, rx.str_inv, ry.int_inv, h2, h6, h0, hz, hl, k _ G H (.refl hk) (.str _)⟩
theorem sw_cell {elt : Expr} {gs : List Comprehension} {scope : Scope} {pos py : Pos} {y : Str} {l : Nat} {env : Env} (hk : env.scope.kind = .function) (hy : env.scope.names.lookup y = some .cell) : swapsWith (.ListComp elt gs scope pos) (some (.Name y py)) l env = pure false := by
  have ky : env.kindOf y = some .cell := hy
  have hb : env.blockKind = .function := by unfold Env.blockKind; rw [hk]; rfl
  unfold swapsWith
  simp only [hb, ky]
  rfl
section
variable {F : CF} {Γ : Ga} {W W1 : OW} {pos : Pos} {A : AE}
theorem turn1_map {F : CF} {W W' : OW} {tg elt : Expr} {vs : List Nat} {Γ0 Γ1 : Ga} {d y : D} {ts : List Nat} {acc acc' : List D} (h1 : EG F (SatG F) tg Γ0 d Γ1 ts) (h2 : ∀ t ∈ ts, t ∈ vs) (h3 : EV F elt Γ1 W (.ok y) W') (e : acc' = acc ++ [y]) : Turn1 F tg [] elt vs Γ0 d W acc W' acc' :=
  ⟨Γ1, ts, h1, h2, true, W, ets_nil, fun _ => ⟨y, h3, e⟩, fun q => by cases q⟩
/-- a state's run: what each turn gives -/
def runG {σ α : Type} (g : σ → σ × α) (s : σ) : Nat → σ × List α
  | 0 => (s, [])
  | i + 1 => ((g (runG g s i).1).1, (runG g s i).2 ++ [(g (runG g s i).1).2])
theorem runG_len {σ α : Type} (g : σ → σ × α) (s : σ) : ∀ i, (runG g s i).2.length = i
  | 0 => rfl
  | i + 1 => by
    rw [runG, List.length_append, runG_len g s i]
    rfl
theorem runG_all {σ α : Type} (g : σ → σ × α) (s : σ) {Pr : α → Prop} (h : ∀ s, Pr (g s).2) : ∀ i, ∀ x ∈ (runG g s i).2, Pr x
  | 0, x, hx => by cases hx
  | i + 1, x, hx => by
    rw [runG] at hx
    rcases List.mem_append.mp hx with hx | hx
    · exact runG_all g s h i x hx
    · rw [List.mem_singleton.mp hx]
      exact h _
theorem en_lcW {σ α : Type} {tg iter elt : Expr} {scope : Scope} {own : List (Str × Nat)} {ds : List D} {Wk : OW → Prop} (g : σ → σ × α) (f : α → D) (Ws : σ → OW) (s0 : σ) (hN : F.N.Nodup) (ok : blkC F.N F.sc scope own = true) (hi : EI F tg iter Γ W ds Wk W1) (hW : Ws s0 = W1) (hwk : ∀ s, Wk (Ws s))
    (hs : ∀ s d, d ∈ ds → ∃ Γ1 ts, EG (F.blk scope) (SatG (F.blk scope)) tg (wipeG Γ (own.map (·.2))) d Γ1 ts ∧ (∀ t ∈ ts, t ∈ own.map (·.2)) ∧ EV (F.blk scope) elt Γ1 (Ws s) (.ok (f (g s).2)) (Ws (g s).1)) (hz : ds.length < sizeLine) (hf : ∀ env x, foldedSetIterable iter env x = pure x := by intro _ _; rfl) :
    EN F (.ListComp elt [⟨tg, iter, [], 0⟩] scope pos) Γ W ((runG g s0 ds.length).2.map f) (Ws (runG g s0 ds.length).1) :=
  en_lc (pos := pos) hN ok hi (fun i => (runG g s0 i).2.map f) (fun i => Ws (runG g s0 i).1) rfl hW (fun i _ => hwk _) (fun i d hd => by
    obtain ⟨Γ1, ts, h1, h2, h3⟩ := hs (runG g s0 i).1 d (List.mem_of_getElem? hd)
    exact turn1_map h1 h2 h3 (by rw [runG, List.map_append]; rfl)) hz hf
/-- x = [..] on one line, x a local -/
theorem s1_setLcW (j : Nat) {σ α : Type} {y : Str} {py spos : Pos} {tg iter elt : Expr} {scope : Scope} {own : List (Str × Nat)} {ds : List D} {Wk : OW → Prop} (g : σ → σ × α) (f : α → D) (Ws : σ → OW) (s0 : σ) (hN : F.N.Nodup) (hj : F.N[j]? = some y) (hy : F.sc.names.lookup y = some .local) (hkd : F.sc.kind = .function) (hl : (py.line == pos.line) = true)
    (hnm : (scope.names.any fun (n, k) => n == y && (k == .local || k == .cell)) = false) (ok : blkC F.N F.sc scope own = true) (hi : EI F tg iter Γ W ds Wk W1) (hW : Ws s0 = W1) (hwk : ∀ s, Wk (Ws s))
    (hs : ∀ s d, d ∈ ds → ∃ Γ1 ts, EG (F.blk scope) (SatG (F.blk scope)) tg (wipeG Γ (own.map (·.2))) d Γ1 ts ∧ (∀ t ∈ ts, t ∈ own.map (·.2)) ∧ EV (F.blk scope) elt Γ1 (Ws s) (.ok (f (g s).2)) (Ws (g s).1)) (hz : ds.length < sizeLine)
    (hA : A.nx (Γ.set j (some (.lst ((runG g s0 ds.length).2.map f)))) (Ws (runG g s0 ds.length).1)) (hf : ∀ env x, foldedSetIterable iter env x = pure x := by intro _ _; rfl) :
    S1 F (.Assign [.Name y py] (.ListComp elt [⟨tg, iter, [], 0⟩] scope pos) spos) Γ W A := by
  refine S1.frozen (Γ0 := Γ) (j := j) (xs := (runG g s0 ds.length).2.map f) (W1 := Ws (runG g s0 ds.length).1) ?_ hA
  exact s1_setLc j hN hj hy hkd hl hnm ok hi (fun i => (runG g s0 i).2.map f) (fun i => Ws (runG g s0 i).1) rfl hW (fun i _ => hwk _) (fun i d hd => by
    obtain ⟨Γ1, ts, h1, h2, h3⟩ := hs (runG g s0 i).1 d (List.mem_of_getElem? hd)
    exact turn1_map h1 h2 h3 (by rw [runG, List.map_append]; rfl)) hz (fun q => ⟨q, rfl, rfl⟩) hf
end
end Sh
set_option Elab.async false
set_option linter.all false
set_option maxRecDepth 100000
set_option maxHeartbeats 1000000
set_option autoImplicit false
/-! ShNt: x += e of tuples. -/
namespace StepS
open PySem PySem.Spec PyProof.Rows L2
section
variable {prog : Program} {w : World} {A : Around} {E : Value → Shared → Prop} {s : Shared}
theorem noI_tup_add : typeLookup (.type "tuple") (dunderI "add") = pure none := by rw [typeLookup_type, builtinLookup_eq_fast]; kernel_rfl
theorem icat_tup0 {t b : Addr} {ws : List Value} {Q : Value → Shared → Prop} (ht : IsTup s.heap t ([] : List Value).toArray) (hb : IsTup s.heap b ws.toArray) (h : Q (.ref b) s) : wpAny (model prog w) A (inplaceOp .Add (.ref t) (.ref b)) Q E s := by
  obtain ⟨⟨cls, dd, data, sl⟩, ho, hc, n, hd⟩ := id ht
  obtain ⟨⟨cls2, dd2, data2, sl2⟩, ho2, hc2, n2, hd2⟩ := id hb
  simp only at hc hd hc2 hd2
  subst hc hd hc2 hd2
  exact wpAny_inplaceOp_concat ⟨_, ho, rfl⟩ ⟨_, ho2, rfl⟩ noI_tup_add noFill_tuple_add seq_tuple_add (call_meets PySem.F.slot_tuple_add ⟨_, ho, rfl⟩ PySem.F.entry_tuple_add (PySem.F.args_tuple_add_2 _ _)
    (tuple_addW0 t b ([] : List Value).toArray ws.toArray n n2 dd dd2 sl sl2 (by simp)) ⟨ho, ho2, h⟩)
theorem icat_tup {t b : Addr} {vs ws : List Value} {Q : Value → Shared → Prop} (ht : IsTup s.heap t vs.toArray) (hb : IsTup s.heap b ws.toArray) (hv : vs ≠ [])
    (h1 : ws = [] → Q (.ref t) s) (h2 : ws ≠ [] → Q (.ref s.heap.objs.size) { s with heap := s.heap.push { cls := .type "tuple", data := .seq (vs ++ ws).toArray } })
    (hsz : vs.length + ws.length ≤ sizeLine) : wpAny (model prog w) A (inplaceOp .Add (.ref t) (.ref b)) Q E s := by
  obtain ⟨⟨cls, dd, data, sl⟩, ho, hc, n, hd⟩ := id ht
  obtain ⟨⟨cls2, dd2, data2, sl2⟩, ho2, hc2, n2, hd2⟩ := id hb
  simp only at hc hd hc2 hd2
  subst hc hd hc2 hd2
  have e : vs.toArray ++ ws.toArray = (vs ++ ws).toArray := by simp
  by_cases hw : ws = []
  · exact wpAny_inplaceOp_concat ⟨_, ho, rfl⟩ ⟨_, ho2, rfl⟩ noI_tup_add noFill_tuple_add seq_tuple_add (call_meets PySem.F.slot_tuple_add ⟨_, ho, rfl⟩ PySem.F.entry_tuple_add (PySem.F.args_tuple_add_2 _ _)
      (tuple_addW1 t b vs.toArray ws.toArray n n2 dd dd2 sl sl2 (by simpa using hv) (by simp [hw])) ⟨ho, ho2, h1 hw⟩)
  · refine wpAny_inplaceOp_concat ⟨_, ho, rfl⟩ ⟨_, ho2, rfl⟩ noI_tup_add noFill_tuple_add seq_tuple_add (call_meets PySem.F.slot_tuple_add ⟨_, ho, rfl⟩ PySem.F.entry_tuple_add (PySem.F.args_tuple_add_2 _ _)
      (tuple_addW2 t b vs.toArray ws.toArray n n2 dd dd2 sl sl2 (by simpa using hv) (by simpa using hw) (by rw [List.size_toArray, List.size_toArray]; exact hsz)) ⟨ho, ho2, ?_⟩)
    rw [e]
    exact h2 hw
end
theorem ip_catF {X : Cx} : PIp X .Add (rCatF X.K) := by
  rintro pins s σ H _ _ v u Q I rx ry ⟨a, b, xs, ys, rfl, rfl, ha, hb, hz, q0, q1, q2⟩
  cases rx
  cases ry
  obtain ⟨its, r1, p1, _⟩ := I.tuple ha
  obtain ⟨its2, r2, p2, _⟩ := I.tuple hb
  by_cases hx : xs = []
  · subst hx
    cases r1
    exact icat_tup0 p1 p2 ⟨.ref b, H, I, rfl, q0 rfl⟩
  · refine icat_tup p1 p2 (fun z => hx (r1.nil_iff.mp z)) (fun z => ⟨.ref a, H, I, rfl, q1 hx (r2.nil_iff.mp z)⟩) (fun z => ?_) (by rw [← r1.length, ← r2.length]; exact hz)
    exact (q2 hx fun w => z (r2.nil_iff.mpr w)).go I (r1.append r2) (by rw [List.length_append]; exact hz)
end StepS
namespace Sh
open PySem PySem.Spec PyProof.Rows L2
/-- x += e, tuples -/
theorem s1_augT {F : CF} {Γ : Ga} {W W1 : OW} {pos : Pos} {e : Expr} {A : AE} (i : Nat) {x : Str} {pos' : Pos} {xs ys : List D} (hi : F.N[i]? = some x) (hx : LocS F.sc x) (hΓ : Γ[i]? = some (some (.tup xs))) (h : EV F e Γ W (.ok (.tup ys)) W1) (hz : xs.length + ys.length ≤ sizeLine) (hA : A.nx (Γ.set i (some (.tup (xs ++ ys)))) W1) : S1 F (.AugAssign (.Name x pos') .Add e pos) Γ W A :=
  fun G H σ De sl hk k => ⟨tAug i (cE F e) (StepS.rCatF F.K), fun X hX => ps_aug hX.nd (by rw [hX.N]; exact hi) (hX.loc hx) (cE_pe hX.toSat) (hX.K ▸ StepS.ip_catF) (.inl (hX.fn x)), by
    obtain ⟨v, e1, r⟩ := sl.2 i _ hΓ
    refine ⟨v, e1, h G H σ _ sl hk fun w G1 H1 s1 r1 => ?_⟩
    have kt : Kont F G1 W1 H1 (.ok (.tup (xs ++ ys))) W1 (fun z H2 => De.nx (σ.set i (some z)) H2) := fun v G' H' st r => k.nx _ W1 G' H' _ hA (s1.trans st) ((sl.mono (s1.le.trans st.le)).put i r)
    have hk2 := s1.hk
    have rx := r.mono s1.le
    obtain ⟨p, vs, rfl, e1, q1⟩ := rx.tup_inv
    obtain ⟨q, ws, rfl, e2, q2⟩ := r1.tup_inv
    refine ⟨p, q, vs, ws, rfl, rfl, sqt_up hk2 e1, sqt_up hk2 e2, by rw [q1.1, q2.1]; exact hz, fun e => ?_, fun _ e => ?_, fun _ _ => kt.newT hk2 (q1.append q2)⟩
    · refine kt _ G1 H1 (.refl hk2) (.tup_mk e2 ?_)
      have : xs = [] := by
        have := q1.1
        rw [e] at this
        exact List.eq_nil_of_length_eq_zero this.symm
      rw [this]
      exact q2
    · refine kt _ G1 H1 (.refl hk2) (.tup_mk e1 ?_)
      have : ys = [] := by
        have := q2.1
        rw [e] at this
        exact List.eq_nil_of_length_eq_zero this.symm
      rw [this, List.append_nil]
      exact q1⟩
/-- the second operand raises -/
theorem et_cmpE2 {F : CF} {Γ : Ga} {W W1 W2 : OW} {pos : Pos} {a b : Expr} {d1 : D} {op : CmpOp} {cl : Addr} (ha : EV F a Γ W (.ok d1) W1) (hb : EV F b Γ W1 (.er cl) W2) (hm : behindInMarks op b = false := by first | exact nobehind _ (by decide) (by decide) | rfl) : ET F (.Compare a [op] [b] pos) Γ W (.er cl) W2 :=
  fun G H σ Q sl hk k => ⟨tTest (tOp (fun _ _ _ _ => False) (cE F a) (cE F b)), fun X hX => pt_cmpR (fun _ _ _ _ _ _ _ _ _ _ _ _ z => z.elim) (cE_pe hX) (cE_pe hX) hm, ha G H σ _ sl hk fun x G1 H1 s1 r1 => hb G1 H1 σ _ (sl.mono s1.le) s1.hk (Kont.step (o := .er cl) k s1)⟩
end Sh
set_option Elab.async false
set_option linter.all false
set_option maxRecDepth 100000
set_option maxHeartbeats 2000000
set_option autoImplicit false
/-! ShOt: sorted of texts; of a new dict, its keys texts. -/
namespace Sh
open PySem PySem.Spec PyProof.Rows L2
section
variable {F : CF} {Γ : Ga} {W W1 : OW} {pos p : Pos} {a : Expr} {d : D}
/-- sorted(xs), texts -/
theorem en_sortS {zs ms : List Str} (hg : GlS F "sorted") (hm : F.mg "sorted" = none) (ha : EV F a Γ W (.ok d) W1) (h : AsL W1 d (zs.map .str)) (h64 : zs.length < 64) (hs : ∀ ys : List Str, ys.Perm zs → sortedS ys = true → ys = ms) (he : ∀ env, starEach [a] env = (false, eval a env) :: starEach [] env := by intro _; rfl) :
    EN F (.Call (.Name "sorted" p) [a] [] pos) Γ W (ms.map .str) W1 :=
  en_callB (r := rSortedS F.K) (fun X hX => hX.K ▸ cr_sortedS) hg hm (by decide +kernel) (ea_cons ha ea_nil he) (he := he) fun G H vs Q hk rs k => by
    obtain ⟨v, rfl, r⟩ := rs.one
    obtain ⟨q, ws, rfl, e1, q1⟩ := h.at hk r
    rw [q1.strs] at e1
    refine ⟨q, zs, rfl, SqL.of e1, h64, fun ys l h1 h2 hl => ?_⟩
    rw [hs ys h1 h2]
    exact k l G _ hl (hk.allocO hl (Rps.of_strs ms))
theorem paired_getR {α β : Type} {R : α → β → Prop} : ∀ {l : List α} {m : List β}, Paired R l m → ∀ {i : Nat} {b : β}, m[i]? = some b → ∃ a, l[i]? = some a ∧ R a b
  | _, _, .nil, i, b, h => by simp at h
  | _, _, .cons h t, 0, b, e => by
    rw [List.getElem?_cons_zero] at e
    cases e
    exact ⟨_, rfl, h⟩
  | _, _, .cons h t, i + 1, b, e => by
    rw [List.getElem?_cons_succ] at e
    obtain ⟨a, e1, e2⟩ := paired_getR t e
    exact ⟨a, by rw [List.getElem?_cons_succ]; exact e1, e2⟩
theorem strs_of : ∀ {us : List Value} {zs : List Str}, us.length = zs.length → (∀ (i : Nat) (v : Value), us[i]? = some v → ∃ z t, zs[i]? = some z ∧ v = .str z t) → StrsAre us zs
  | [], [], _, _ => .nil
  | [], _ :: _, h, _ => by cases h
  | _ :: _, [], h, _ => by cases h
  | u :: us, z :: zs, h, k => by
    obtain ⟨z', t, e1, rfl⟩ := k 0 u rfl
    cases e1
    exact .cons _ _ (strs_of (by simpa using h) fun i v e => k (i + 1) v (by rw [List.getElem?_cons_succ]; exact e))
/-- .. of a dict, its keys -/
def rSortK (K : PySem.W.Frag) : List V → Hp → VK → Prop := fun vs H Q => ∃ (a : Addr) (zs : List Str) (kvs : List (Key × V)), vs = [V.ref a] ∧ H a = some (.dK kvs) ∧ kvs.map (·.1) = zs.map .inr ∧ zs.length < 64 ∧
  ∀ (ys : List Str) (p : Addr), ys.Perm zs → sortedS ys = true → H p = none → Q (.ref p) (upd H p (.lst (ys.map V.str)))
theorem cr_sortK {X : Cx} (hc : X.calm = true) : CallR X (.builtin "sorted") (rSortK X.K) := by
  intro pins s σ H vs us Q I r h
  obtain ⟨a, zs, kvs, rfl, hd, hz, h64, q⟩ := h
  rw [Vals.ref1 r]
  obtain ⟨hsz, hsm, ws, hkv, hdo⟩ := dk_of I.hok hd
  obtain ⟨ep, hda⟩ := hdo.dictAt
  have hlen : ws.length = zs.length := by
    have h1 := hkv.length
    have h2 := congrArg List.length hz
    rw [List.length_map, List.length_map] at h2
    omega
  have hkey : ∀ (i : Nat) (k : Key) (x : Value), ws[i]? = some (k, x) → ∃ z, zs[i]? = some z ∧ k = .inr z := fun i k x e => by
    obtain ⟨kv, e1, e2⟩ := paired_getR hkv e
    have e3 : (kvs.map (·.1))[i]? = some kv.1 := by rw [List.getElem?_map, e1]; rfl
    rw [hz, List.getElem?_map] at e3
    cases e4 : zs[i]? with
    | none => rw [e4] at e3; cases e3
    | some z =>
      rw [e4] at e3
      exact ⟨z, rfl, (show kv.1 = k from e2.1) ▸ (Option.some.inj e3).symm⟩
  refine Calls.call_function_entry kind_sorted plain_sorted entry_sorted (args_sorted1 _) ?_
  unfold Builtin.«sorted»
  refine wpAny_bind (m := checkCount "sorted" 1 1 _) (wpAny_pure ?_)
  have hZ : ws.length ≤ sizeLine := by rw [hlen, sizeLine_eq]; omega
  refine wpAny_bind (PySem.W.kdu_collect (A := X.A.in1) (PySem.W.kdl_dict (knd := mixKind X.prog X.w) (kvs := ws) (ep := ep) hsm) (I.ok.hd hc) hda hZ fun h' tk acc hk hacc => ?_)
  have hl : acc.toList.length = zs.length := by rw [Array.length_toList, hacc.1, hlen]
  have hst : StrsAre acc.toList zs := strs_of hl fun i v e => by
    obtain ⟨k, x, e1, e2⟩ := hacc.2 i v (by rw [← Array.getElem?_toList]; exact e)
    obtain ⟨z, e3, rfl⟩ := hkey i k x e1
    rcases keyIs_shape (show keyIs (.inr z) v = true from e2) with ⟨_, _, e4, _⟩ | ⟨y, t, e4, rfl⟩
    · cases e4
    · cases e4
      exact ⟨z, t, e3, rfl⟩
  refine wpAny_bind (wpAny_newList ?_ (by rw [hl, sizeLine_eq]; omega))
  have hoL : (h'.push (seqObj "list" acc.toList.toArray 0)).get? h'.objs.size = some (seqObj "list" acc.toList.toArray 0) := Heap.get?_push_size _ rfl
  refine wpAny_bind (wpAny_holding (wpAny_call_entry slot_list_sort ⟨_, hoL, rfl⟩ entry_list_sort (list_sort_treeK (s := { s with heap := h'.push (seqObj "list" acc.toList.toArray 0), toks := tk }) strKind_oneLt hoL hst.keysOf (fun v₁ v₂ rest e => keyKind_strs (by rw [← e]; exact hst)) (by rw [hl]; exact h64) fun st' hp hs => ⟨_, rfl, ?_⟩) (args_list_sort _)))
  refine wpAny_pure ⟨_, rfl, ?_⟩
  obtain ⟨ys, y1, y2, y3⟩ := sorted_out_str hst hp hs
  have I2 : Inv X pins σ H { s with heap := h', toks := tk } := I.kept hk
  have hq : H h'.objs.size = none := I2.hok.fresh (Nat.le_refl _)
  obtain ⟨ep2, hat⟩ := sortedHeap_at (vs := acc.toList) (out := (arrOf st').map (·.2)) hoL
  refine ⟨.ref h'.objs.size, upd H h'.objs.size (.lst (ys.map V.str)), I2.laid (t' := tk) (fun b o q => ?_) (Nat.le_refl _) ⟨?_, _, ep2, vals_of_strs y1, ?_⟩, rfl, q ys _ y2 y3 hq⟩
  · have lt := Heap.lt_size q
    rw [sortedHeap_old (Nat.ne_of_lt lt) (by rw [Heap.size_push]; exact Nat.lt_succ_of_lt lt)]
    exact Heap.get?_push_of_some _ q
  · rw [List.length_map, y2.length_eq, sizeLine_eq]
    omega
  · rw [Array.toArray_toList]
    exact hat
/-- sorted(d), d a new dict with texts as keys -/
theorem en_sortKN {ds : List (Key × D)} {zs ms : List Str} (hg : GlS F "sorted") (hm : F.mg "sorted" = none) (ha : END F a Γ W ds W1) (hky : ds.map (·.1) = zs.map .inr) (h64 : zs.length < 64) (hs : ∀ ys : List Str, ys.Perm zs → sortedS ys = true → ys = ms) (he : ∀ env, starEach [a] env = (false, eval a env) :: starEach [] env := by intro _; rfl) :
    EN F (.Call (.Name "sorted" p) [a] [] pos) Γ W (ms.map .str) W1 :=
  fun G H σ Q sl hk k => ⟨tCB (rSortK F.K) (tCons (cE F a) tNil), fun X hX => pe_callB (hX.K ▸ cr_sortK hX.calm) (hX.gl hg) (by rw [hX.mg]; exact hm) (by decide +kernel) (pa_cons (cE_pe hX) pa_nil (he _)) (he := he _), ha G H σ _ sl hk fun q G1 H1 hq s1 => by
    obtain ⟨_, ob, eo, ro⟩ := s1.hk.own _ List.mem_cons_self
    obtain ⟨kvs, rfl, ro⟩ := ro.dK_inv
    have hkeys : kvs.map (·.1) = zs.map .inr := by
      rw [← hky]
      exact ro.1
    refine ⟨q, zs, kvs, rfl, eo, hkeys, h64, fun ys l h1 h2 hl => ?_⟩
    rw [hs ys h1 h2]
    have s2 := s1.drop (List.sublist_cons_self _ _)
    exact k l G1 _ (s2.back hl) (s2.trans (s2.hk.allocO hl (w := .lst (ms.map D.str)) (o := .lst (ms.map V.str)) (Rps.of_strs ms)))⟩
/-- i, i + c, .. -/
def rngC (i c : Int) (n : Nat) : List D := (List.range n).map fun (k : Nat) => .int (i + (k : Int) * c)
theorem rngC_len (i c : Int) (n : Nat) : (rngC i c n).length = n := by
  unfold rngC
  rw [List.length_map, List.length_range]
theorem rngC_get {i c : Int} {n k : Nat} {d : D} (h : (rngC i c n)[k]? = some d) : k < n ∧ d = .int (i + (k : Int) * c) := by
  unfold rngC at h
  rw [List.getElem?_map] at h
  by_cases hi : k < n
  · rw [List.getElem?_range hi] at h
    cases h
    exact ⟨hi, rfl⟩
  · rw [List.getElem?_eq_none (by rw [List.length_range]; omega)] at h
    cases h
theorem wlk_rngC {G : Hp} {i c : Int} {n : Nat} : Wlk F (Itc i c n) G (fun _ => True) (rngC i c n) := fun G' W' H' le hk' _ k => by
  refine ⟨fun d hd => ?_, fun hi => ?_⟩
  · obtain ⟨hi, rfl⟩ := rngC_get hd
    refine ⟨hi, fun x H'' y => ?_⟩
    obtain ⟨rfl, rfl⟩ := y
    exact ⟨.refl hk', yp_of (.int _)⟩
  · rw [rngC_len] at hi
    exact hi
/-- how many a range with a step has -/
def cntC (n c : Nat) : Nat := (n + c - 1) / c
theorem size_c {n c : Nat} (hc : 0 < c) : Builtin.Range.rangeSize 0 (n : Int) (c : Int) = (cntC n c : Nat) := by
  unfold Builtin.Range.rangeSize cntC
  rw [if_pos (show (c : Int) > 0 by omega)]
  by_cases h : n = 0
  · subst h
    rw [if_neg (by omega), Nat.div_eq_of_lt (by omega)]
    rfl
  · rw [if_pos (by omega)]
    have e : n + c - 1 = (n - 1) + c := by omega
    rw [e, Nat.add_div_right _ hc]
    have e2 : (n : Int) - 0 - 1 = ((n - 1 : Nat) : Int) := by omega
    rw [e2]
    push_cast
    rfl
theorem cntC_le {n c : Nat} (hc : 0 < c) : cntC n c ≤ n := by
  unfold cntC
  by_cases h : n = 0
  · subst h
    rw [Nat.div_eq_of_lt (by omega)]
    exact Nat.le_refl _
  · have e : n + c - 1 = (n - 1) + c := by omega
    rw [e, Nat.add_div_right _ hc]
    have := Nat.div_le_self (n - 1) c
    omega
theorem rgC_of {n c : Nat} (hc : 0 < c) (hn : n ≤ 100000) (hc2 : c ≤ 100000) : RgC 0 (n : Int) (c : Int) (cntC n c) := by
  have hl := cntC_le (n := n) hc
  refine ⟨by omega, by omega, ?_, size_c hc⟩
  unfold Builtin.Range.small
  rw [size_c hc, if_pos (show (c : Int) > 0 by omega)]
  simp only [Builtin.Range.rangeFitsLong, Bool.and_eq_true, Bool.or_eq_true, decide_eq_true_eq, beq_iff_eq]
  refine ⟨⟨⟨⟨⟨?_, ?_⟩, ?_, ?_⟩, ?_, ?_⟩, ?_, ?_⟩, .inr ⟨?_, ?_⟩⟩ <;> omega
theorem ei_range3 {tg b c : Expr} {n m : Nat} (hg : GlS F "range") (hm : F.mg "range" = none) (h : EA F [a, b, c] Γ W (.ok [.int 0, .int (n : Nat), .int (m : Nat)]) W1) (hc : 0 < m) (hn : n ≤ 100000) (hc2 : m ≤ 100000)
    (hs : ∀ env, starEach [a, b, c] env = (false, eval a env) :: starEach [b, c] env := by intro _; rfl) (hpl : ∀ env, (backTo pos (starEach [b, c] env)).any (·.1) = false := by intro _; rfl) :
    EI F tg (.Call (.Name "range" p) [a, b, c] [] pos) Γ W (rngC 0 (m : Nat) (cntC n m)) (fun _ => True) W1 :=
  fun G H σ R sl hk k => ⟨iRng3 (cA F [a, b, c]), fun X hX => pi_range3 (hX.gl hg) (by rw [hX.mg]; exact hm) (cA_pa hX) (hs _) (hpl _), h G H σ _ sl hk fun vs G1 H1 s1 r1 => by
    obtain ⟨v, v', v'', rfl, q1, q2, q3⟩ := r1.three
    exact ⟨0, n, m, cntC n m, by rw [q1.int_inv, q2.int_inv, q3.int_inv], rgC_of hc hn hc2, k _ G1 H1 s1 wlk_rngC⟩⟩
end
end Sh
set_option Elab.async false
set_option linter.all false
set_option maxRecDepth 100000
set_option maxHeartbeats 2000000
set_option autoImplicit false
/-! ShPt: sorted(xs, key=f), f a def, the items texts. -/
namespace Sh
open PySem PySem.Spec PyProof.Rows L2
/-- an object taken off a heap -/
def offH (h : Heap) (a : Addr) : Heap := { h with objs := h.objs.setIfInBounds a ⟨.none, none, .freed, #[]⟩ }
theorem off_at (h : Heap) (a : Addr) : (offH h a).get? a = none := by
  unfold offH Heap.get?
  simp only [Array.getElem?_setIfInBounds]
  by_cases q : a < h.objs.size
  · simp [q]
  · simp [q]
theorem off_ne {h : Heap} {a b : Addr} (e : b ≠ a) : (offH h a).get? b = h.get? b := by
  unfold offH Heap.get?
  simp only [Array.getElem?_setIfInBounds]
  rw [if_neg (fun z => e z.symm)]
theorem off_keeps (h : Heap) (a c : Addr) : PySem.W.KeepsBut c (offH h a) h := fun b o _ e => by
  by_cases q : b = a
  · subst q
    rw [off_at] at e
    cases e
  · rwa [off_ne q] at e
section
variable {F : CF} {S : Law} {f : Addr} {k : Nat}
/-- one key -/
theorem key_turn {X : Cx} {A2 : Around} {pins : List (Addr × Obj)} {σ : L2.St} {G H : Hp} {W : OW} {s : Shared} {x : Str} {d : D} {v : Value} {R : Value → Shared → Prop} {E : Value → Shared → Prop} (hX : Sat F X) (hf : FdAt F.P F.w F.K F.mg F.base F.T f k 1 S) (hr : Room k A2) (hfr : A2.frames = some X.stack) (I : Inv X pins σ H s) (hk : Hk F.K F.T G W H) (hv : RelV (.str x) v) (hS : S [.str x] [] (.ok d) [])
    (hR : ∀ (u : V) (uv : Value) (G' H' : Hp) (s' : Shared), Inv X pins σ H' s' → Step F.K F.T G W H G' W H' → RelV u uv → Rp F.K G' u d → R uv s') :
    wpAny (model X.prog X.w) A2 (call (.ref f) [v]) R E s := by
  obtain ⟨fd, ps, kp, hb, hn, fo⟩ := hf.ex
  have FO := FnOk.cast fo hX.P hX.w hX.K hX.mg hX.base
  have e0 := I.env0
  refine wpAny_call (codeAny_mono (FO.run A2 X.stack s H ⟨[v], []⟩ [v] [.str x] (fun u H' => ∃ G', Step F.K F.T G W H G' W H' ∧ Rp F.K G' u d) (fun _ _ _ => False) hr ⟨hfr, e0.mod, e0.bs, e0.bsz, e0.funs, e0.frf, e0.hok, e0.bare⟩ (hb s [v] (hX.K ▸ I.kIn) hn.symm) (.cons hv .nil) ⟨G, [], [.str x], .ok d, [], hk.less (List.nil_sublist _), Rps.nil.cons (.str x), hS, fun u G' H' st r => ⟨G', st.more hk, r⟩⟩) fun r s' hq => ?_)
  cases r with
  | error e =>
    obtain ⟨_, _, _, _, _, _, _, _, _, _, _, _, h⟩ := hq
    exact h.elim
  | ok fl =>
    cases fl with
    | ret u =>
      obtain ⟨uv, H', I', r', G', st, rp⟩ := I.after hq
      exact hR _ _ _ _ _ I' st r' rp
    | next => exact hq.elim
    | brk => exact hq.elim
    | cont => exact hq.elim
theorem fp_of {X : Cx} {pins pins' : List (Addr × Obj)} {H H' : Hp} {b : Addr} (h : FpOk X pins H b) (hn : H' b = none) (hp : ∀ p ∈ pins', p ∈ pins ∨ p.1 ≠ b) : FpOk X pins' H' b := by
  obtain ⟨_, h1, h2, h3, h4, h5⟩ := h
  refine ⟨hn, h1, h2, h3, h4, fun p hpp => ?_⟩
  rcases List.mem_append.mp hpp with z | z
  · exact h5 p (List.mem_append_left _ z)
  · rcases hp p z with q | q
    · exact h5 p (List.mem_append_right _ q)
    · exact q
/-- the loop over the items: the keys laid up -/
theorem key_loop {X : Cx} {A2 : Around} {pins : List (Addr × Obj)} {σ : L2.St} {G H : Hp} {W : OW} {xs : List Str} {kd : Str → D} {its : List Value} {A0 kS : Addr} {e1 : Nat} {P : PySem.Fin → Shared → Prop} {E : Value → Shared → Prop} {s : Shared}
    (hX : Sat F X) (hf : FdAt F.P F.w F.K F.mg F.base F.T f k 1 S) (hr : Room k A2) (hfr : A2.frames = some X.stack) (hS : ∀ x ∈ xs, S [.str x] [] (.ok (kd x)) []) (rv : Vals (xs.map V.str) its) (h64 : xs.length < 64) (hne : kS ≠ A0)
    (I : Inv X pins σ H s) (hk : Hk F.K F.T G W H) (fA : FpOk X pins H A0) (fS : FpOk X pins H kS) (hA : s.heap.get? A0 = some (seqObj "list" #[] e1)) (hkS : s.heap.get? kS = some (seqObj "list" #[] 0))
    (fin : ∀ (s' : Shared) (G' H' : Hp) (kA : Array Value) (us : List V) (e : Nat), Inv X pins σ H' s' → Step F.K F.T G W H G' W H' → FpOk X pins H' A0 → FpOk X pins H' kS → s'.heap.get? A0 = some (seqObj "list" #[] e1) → s'.heap.get? kS = some (seqObj "list" kA e) → Vals us kA.toList → Rps F.K G' us (xs.map kd) → wpAny (model X.prog X.w) A2 (ksk_end A0 false its.toArray e1 (.ref kS) kA) P E s') :
    wpAny (model X.prog X.w) A2 (ksk_rest A0 (.ref f) false its.toArray e1 (.ref kS)) P E s := by
  have hil : its.length = xs.length := by rw [← rv.length, List.length_map]
  unfold ksk_rest
  refine wpAny_bind (wpAny_rule ?_)
  rw [List.forIn_toArray]
  refine wpAny_bind (ksk_fold (fun i s' => ∃ G' H' kA us e, Inv X pins σ H' s' ∧ Step F.K F.T G W H G' W H' ∧ FpOk X pins H' A0 ∧ FpOk X pins H' kS ∧ s'.heap.get? A0 = some (seqObj "list" #[] e1) ∧ s'.heap.get? kS = some (seqObj "list" kA e) ∧ Vals us kA.toList ∧ Rps F.K G' us ((xs.take i).map kd)) its 0 s ⟨G, H, #[], [], 0, I, .refl hk, fA, fS, hA, hkS, .nil, .nil⟩ ?_ ?_)
  · rintro j v s' hv ⟨G', H', kA, us, e, I1, st1, fA1, fS1, hA1, hS1, r1, r2⟩
    simp only [Nat.zero_add] at r2 ⊢
    have hj : j < xs.length := by rw [← hil]; exact (List.getElem?_eq_some_iff.mp hv).1
    obtain ⟨x, hx⟩ : ∃ x, xs[j]? = some x := ⟨_, List.getElem?_eq_getElem hj⟩
    have hrel : RelV (.str x) v := by
      obtain ⟨u, e2, q⟩ := rv.get (i := j) (by rw [List.getElem?_map, hx]; rfl)
      rw [hv] at e2
      cases e2
      exact q
    have Ip : Inv X ((A0, seqObj "list" #[] e1) :: (kS, seqObj "list" kA e) :: pins) σ H' s' := I1.pins_of fun p hp => by
      rcases List.mem_cons.mp hp with rfl | hp
      · exact ⟨hA1, fA1.1, fA1.2.1, fA1.2.2.1, fun v z => nomatch z⟩
      · rcases List.mem_cons.mp hp with rfl | hp
        · exact ⟨hS1, fS1.1, fS1.2.1, fS1.2.2.1, fun v z => nomatch z⟩
        · exact I1.pin p (List.mem_append_right _ hp)
    refine wpAny_bind (wpAny_attempt (key_turn hX hf hr hfr Ip st1.hk hrel (hS x (List.mem_of_getElem? hx)) fun u uv G2 H2 s2 I2 st2 ru rp => ?_))
    have pA := I2.pin (A0, seqObj "list" #[] e1) (List.mem_append_right _ List.mem_cons_self)
    have pS := I2.pin (kS, seqObj "list" kA e) (List.mem_append_right _ (List.mem_cons_of_mem _ List.mem_cons_self))
    have I3 : Inv X pins σ H2 s2 := I2.pins_of fun p hp => I2.pin p (List.mem_append_right _ (List.mem_cons_of_mem _ (List.mem_cons_of_mem _ hp)))
    have fA2 : FpOk X pins H2 A0 := fp_of fA1 pA.2.1 fun p hp => .inl hp
    have fS2 : FpOk X pins H2 kS := fp_of fS1 pS.2.1 fun p hp => .inl hp
    have hsz : kA.size ≤ 64 := by
      have h1 := r1.length
      have h2 := r2.1
      rw [List.length_map, List.length_take] at h2
      have h3 : kA.toList.length = kA.size := Array.length_toList
      omega
    have hbig : 64 < sizeLine := by decide
    have sb := Heap.SameBut.update s2.heap kS (Obj.mapSeq (·.push uv))
    obtain ⟨c2, hc2⟩ : ∃ c2, (s2.heap.update kS (Obj.mapSeq (·.push uv))).get? kS = some (seqObj "list" (kA.push uv) c2) := ⟨_, get?_update_seq pS.1 (·.push uv)⟩
    try dsimp only
    refine wpAny_bind (listUpdate_at pS.1 rfl ?_ (by omega) (by rw [Array.size_push]; omega))
    have I4 : Inv X pins σ H2 { s2 with heap := s2.heap.update kS (Obj.mapSeq (·.push uv)) } := I3.turnedL (t' := s2.toks) (ch := [kS]) (fun b o hb e => (sb.2 b (by simpa using hb)).trans e) fun b hb => by
      rw [List.mem_singleton.mp hb]
      exact fS2
    refine wpAny_pure ⟨rfl, G2, H2, kA.push uv, us ++ [u], c2, I4, st1.trans st2, fA2, fS2, (sb.2 A0 hne.symm).trans pA.1, hc2, ?_, ?_⟩
    · rw [Array.toList_push]
      exact r1.append (.cons ru .nil)
    · rw [List.take_add_one, hx, List.map_append]
      exact (r2.mono st2.le).append (Rps.nil.cons rp)
  · rintro s' ⟨G', H', kA, us, e, I1, st1, fA1, fS1, hA1, hS1, r1, r2⟩
    rw [Nat.zero_add, hil, List.take_length] at r2
    refine wpAny_bind (listItems_at hS1 rfl ?_)
    exact fin s' G' H' kA us e I1 st1 fA1 fS1 hA1 hS1 r1 r2
theorem each_reads {X : Cx} {pins : List (Addr × Obj)} {σ : L2.St} {G H : Hp} {W : OW} {s : Shared} {T : Tb} (I : Inv X pins σ H s) (hk : Hk X.K T G W H) {kd : Str → D} {pd : Str → PyData} (hpy : ∀ x, Py W (kd x) (pd x)) : ∀ (xs : List Str) (us : List V) (vs : List Value), Vals us vs → Rps X.K G us (xs.map kd) → PySem.W.EachIs (fun v d => ∃ as, Reads s.heap v d as) vs (xs.map pd)
  | [], us, vs, r1, r2 => by
    have := r2.inv0
    subst this
    cases r1
    exact .nil
  | x :: xs, us, vs, r1, r2 => by
    obtain ⟨u, us', rfl, q1, q2⟩ := Rps.inv r2
    cases r1 with
    | cons r r1 => exact .cons (Dp.reads I _ _ _ ((hpy x).dp hk q1) r) (each_reads I hk hpy xs us' _ r1 q2)
theorem each_strs : ∀ {xs : List Str} {vs : List Value}, Vals (xs.map V.str) vs → PySem.W.EachIs (fun v x => RelV (.str x) v) vs xs
  | [], _, r => by cases r; exact .nil
  | x :: xs, _, r => by
    cases r with
    | cons r r1 => exact .cons r (each_strs r1)
theorem vals_each : ∀ {xs : List Str} {vs : List Value}, PySem.W.EachIs (fun v x => RelV (.str x) v) vs xs → Vals (xs.map V.str) vs
  | _, _, .nil => .nil
  | _, _, .cons r t => .cons r (vals_each t)
theorem sort_core {X : Cx} {pins : List (Addr × Obj)} {σ : L2.St} {G H : Hp} {W : OW} {xs : List Str} {kd : Str → D} {pd : Str → PyData} {Q : VK} {s : Shared} {hc : Heap} {A0 : Addr} {its : List Value} {E' : Value → Shared → Prop}
    (hX : Sat F X) (hf : FdAt F.P F.w F.K F.mg F.base F.T f k 1 S) (hkk : k + 2 ≤ F.k) (hS : ∀ x ∈ xs, S [.str x] [] (.ok (kd x)) []) (h64 : xs.length < 64) (hpy : ∀ W x, Py W (kd x) (pd x)) (hal : PySem.W.AllAlike (xs.map pd)) (hsk : PySem.W.Sortable (xs.map pd)) (hdep : ∀ x ∈ xs, (pd x).depth ≤ 10)
    (I : Inv X pins σ H s) (hk : Hk F.K F.T G W H) (rv : Vals (xs.map V.str) its) (ho : hc.get? A0 = some (seqObj "list" its.toArray 0)) (hcold : ∀ b o, s.heap.get? b = some o → hc.get? b = some o) (hsz0 : s.heap.objs.size ≤ A0)
    (q : ∀ p G' H', H p = none → Step F.K F.T G W H G' ((p, .lst ((xs.mergeSort (PySem.W.dataLe false pd)).map D.str)) :: W) H' → Q (.ref p) H') :
    wpAny (model X.prog X.w) X.A.in1.in1 (ksk_tree A0 (.ref f) false) (fun r s' => r = .done (.ret .none) ∧ EP X pins σ Q (.ref A0) s') E' { s with heap := hc } := by
  have hil : its.length = xs.length := by rw [← rv.length, List.length_map]
  have hbig : 64 < sizeLine := by decide
  have hits : its.length ≤ sizeLine := by omega
  obtain ⟨e1, ho1⟩ : ∃ e1, (hc.update A0 (Obj.mapSeq fun _ => (#[] : Array Value))).get? A0 = some (seqObj "list" #[] e1) := ⟨_, get?_update_seq ho fun _ => #[]⟩
  have hsA : A0 < hc.objs.size := Heap.lt_size ho
  unfold ksk_tree
  refine wpAny_bind (listItems_at ho rfl ?_)
  refine wpAny_bind (listUpdate_at ho rfl ?_ (by rw [List.size_toArray]; exact hits) (Nat.zero_le _))
  refine wpAny_bind (seqEpoch_at ho1 rfl ?_)
  refine wpAny_bind (wpAny_newTuple ?_ (by show its.length ≤ _; exact hits))
  refine wpAny_bind (wpAny_newList ?_ (Nat.zero_le _))
  refine wpAny_holding ?_
  have hlt : ∀ b o, s.heap.get? b = some o → b < A0 := fun b o e => Nat.lt_of_lt_of_le (Heap.lt_size e) hsz0
  have su := Heap.SameBut.update hc A0 (Obj.mapSeq fun _ => (#[] : Array Value))
  generalize hup : hc.update A0 (Obj.mapSeq fun _ => (#[] : Array Value)) = hu at ho1 su ⊢
  have huold : ∀ b o, s.heap.get? b = some o → hu.get? b = some o := fun b o e => (su.2 b (Nat.ne_of_lt (hlt b o e))).trans (hcold b o e)
  have hA1 : A0 < hu.objs.size := Heap.lt_size ho1
  have room := (hX.room.mono hkk).in1.in1
  have hn : ∀ b, s.heap.objs.size ≤ b → H b = none := fun b hb => I.hok.fresh hb
  have I0 : Inv X pins σ H { s with heap := (hu.push (seqObj "tuple" its.toArray 0)).push (seqObj "list" #[] 0) } := I.kept (t' := s.toks) fun b o e => Heap.get?_push_of_some _ (Heap.get?_push_of_some _ (huold b o e))
  have fA : FpOk X pins H A0 := I.fpOk hsz0 (hn _ hsz0)
  have hkz : s.heap.objs.size ≤ (hu.push (seqObj "tuple" its.toArray 0)).objs.size := by
    rw [size_push']
    exact Nat.le_succ_of_le (Nat.le_of_lt (Nat.lt_of_le_of_lt hsz0 hA1))
  have hne : (hu.push (seqObj "tuple" its.toArray 0)).objs.size ≠ A0 := by
    rw [size_push']
    exact Nat.ne_of_gt (Nat.lt_succ_of_lt hA1)
  refine key_loop (s := { s with heap := (hu.push (seqObj "tuple" its.toArray 0)).push (seqObj "list" #[] 0) }) hX hf room I.ok.frames hS rv h64 hne I0 hk fA (I.fpOk hkz (hn _ hkz)) (Heap.get?_push_of_some _ (Heap.get?_push_of_some _ ho1)) (Heap.get?_push_size _ rfl) fun s' G' H' kA us e I1 st fA1 fS1 hA2 hS2 r1 r2 => ?_
  generalize (hu.push (seqObj "tuple" its.toArray 0)).objs.size = kS at fS1 hS2 hne ⊢
  have hkl : kA.size = its.length := by
    have h1 := r1.length
    have h2 := r2.1
    rw [List.length_map] at h2
    have h3 : kA.toList.length = kA.size := Array.length_toList
    omega
  have hun := hX.room.un
  have hrd := each_reads (G := G') (T := F.T) (W := W) I1 (hX.K ▸ st.hk) (hpy W) xs us kA.toList r1 (hX.K ▸ r2)
  refine PySem.W.keyH_end (κ := PySem.W.dataKind s'.heap (xs.map pd)) (h₁ := offH s'.heap kS) (off_keeps _ _ _) (off_at _ _) hS2 hA2 hne (PySem.W.SortsAt.data hrd hal hsk fun d hd => ?_) hkl hits fun h3 tk3 c k3 n3 => ⟨rfl, ?_⟩
  · obtain ⟨x, hx, rfl⟩ := List.mem_map.mp hd
    have := hdep x hx
    show X.A.units + 1 + 1 + (pd x).depth < cLine
    omega
  · have hout := PySem.W.keyedOut_each (rev := false) pd ⟨s'.heap, kA.toList, hal, rfl, hrd⟩ (each_strs rv)
    have hv := vals_each hout
    have hol := hv.length
    have I2 : Inv X pins σ H' { s' with heap := h3, toks := tk3 } := I1.turnedL (ch := [A0, kS]) (fun b o hb e => k3 b o (fun z => hb (by simp [z])) (by rw [off_ne fun z => hb (by simp [z])]; exact e)) fun b hb => by
      rcases List.mem_cons.mp hb with rfl | hb
      · exact fA1
      · rw [List.mem_singleton.mp hb]
        exact fS1
    have hml : ((xs.mergeSort (PySem.W.dataLe false pd)).map V.str).length ≤ sizeLine := by
      rw [List.length_map, List.length_mergeSort]
      omega
    have I3 := I2.take (t' := tk3) (h' := h3) (it := A0) (o := .lst ((xs.mergeSort (PySem.W.dataLe false pd)).map V.str)) (fun b ob _ e => e) (fp_of fA1 fA1.1 fun p hp => .inl hp) ⟨hml, _, c, hv, n3⟩
    exact ⟨.ref A0, _, I3, rfl, q A0 G' _ (hn _ hsz0) (st.trans (st.hk.allocO fA1.1 (w := .lst ((xs.mergeSort (PySem.W.dataLe false pd)).map D.str)) (Rps.of_strs _)))⟩
theorem sort_key {X : Cx} {pins : List (Addr × Obj)} {σ : L2.St} {G H : Hp} {W : OW} {xs : List Str} {kd : Str → D} {pd : Str → PyData} {l : Addr} {Q : VK} {s : Shared}
    (hX : Sat F X) (hf : FdAt F.P F.w F.K F.mg F.base F.T f k 1 S) (hkk : k + 2 ≤ F.k) (hS : ∀ x ∈ xs, S [.str x] [] (.ok (kd x)) []) (h64 : xs.length < 64) (hpy : ∀ W x, Py W (kd x) (pd x)) (hal : PySem.W.AllAlike (xs.map pd)) (hsk : PySem.W.Sortable (xs.map pd)) (hdep : ∀ x ∈ xs, (pd x).depth ≤ 10)
    (I : Inv X pins σ H s) (hk : Hk F.K F.T G W H) (hs : SqL X.K H l (xs.map V.str)) (q : ∀ p G' H', H p = none → Step F.K F.T G W H G' ((p, .lst ((xs.mergeSort (PySem.W.dataLe false pd)).map D.str)) :: W) H' → Q (.ref p) H') :
    wpAny (model X.prog X.w) X.A (call (.builtin "sorted") [.ref l] [(Str.ofString "key", .ref f)]) (EP X pins σ Q) X.xe s := by
  obtain ⟨its, rv, hl, hz⟩ := I.list hs
  have hil : its.length = xs.length := by rw [← rv.length, List.length_map]
  have hbig : 64 < sizeLine := by decide
  refine PySem.W.sorted_of_sort hl.isList (by omega) (ksk_s1 _ _) (fun x => ksk_l1 _ _) fun E' => ?_
  rw [ksk_t1]
  exact sort_core hX hf hkk hS h64 hpy hal hsk hdep I hk rv (PySem.W.copyHeap_at s.heap its) (fun b o e => PySem.W.copyHeap_old e) (Nat.le_succ _) q
theorem sort_keyT {X : Cx} {pins : List (Addr × Obj)} {σ : L2.St} {G H : Hp} {W : OW} {xs : List Str} {kd : Str → D} {pd : Str → PyData} {l : Addr} {Q : VK} {s : Shared}
    (hX : Sat F X) (hf : FdAt F.P F.w F.K F.mg F.base F.T f k 1 S) (hkk : k + 2 ≤ F.k) (hS : ∀ x ∈ xs, S [.str x] [] (.ok (kd x)) []) (h64 : xs.length < 64) (hpy : ∀ W x, Py W (kd x) (pd x)) (hal : PySem.W.AllAlike (xs.map pd)) (hsk : PySem.W.Sortable (xs.map pd)) (hdep : ∀ x ∈ xs, (pd x).depth ≤ 10)
    (I : Inv X pins σ H s) (hk : Hk F.K F.T G W H) (hs : SqT X.K H l (xs.map V.str)) (q : ∀ p G' H', H p = none → Step F.K F.T G W H G' ((p, .lst ((xs.mergeSort (PySem.W.dataLe false pd)).map D.str)) :: W) H' → Q (.ref p) H') :
    wpAny (model X.prog X.w) X.A (call (.builtin "sorted") [.ref l] [(Str.ofString "key", .ref f)]) (EP X pins σ Q) X.xe s := by
  obtain ⟨its, rv, hl, hz⟩ := I.tuple hs
  have hil : its.length = xs.length := by rw [← rv.length, List.length_map]
  have hbig : 64 < sizeLine := by decide
  obtain ⟨o, ho, hcl, n, hd⟩ := id hl
  refine PyProof.Rows.call_function_entry_kw kind_sorted plain_sorted entry_sorted (ksk_s1 _ _) ?_
  unfold Builtin.«sorted»
  refine wpAny_bind (m := checkCount "sorted" 1 1 _) (wpAny_pure ?_)
  refine wpAny_bind (wpAny_collect_seq l (.inr rfl) ho hcl hd (fun h' hh => ?_) (by rw [List.size_toArray]; omega))
  rw [List.toList_toArray]
  refine wpAny_bind (wpAny_newList ?_ (by omega))
  refine wpAny_bind (wpAny_holding (wpAny_call_entry_kw slot_list_sort ⟨_, Heap.get?_push_size _ rfl, rfl⟩ entry_list_sort ?_ (ksk_l1 _ _)))
  rw [ksk_t1]
  have I1 : Inv X pins σ H { s with heap := h' } := I.kept (t' := s.toks) hh
  refine wpAny_mono (sort_core (s := { s with heap := h' }) (hc := h'.push (seqObj "list" its.toArray 0)) (A0 := h'.objs.size) hX hf hkk hS h64 hpy hal hsk hdep I1 hk rv (Heap.get?_push_size _ rfl) (fun b o e => Heap.get?_push_of_some _ e) (Nat.le_refl _) q) (fun r s' hr => ?_) fun _ _ e => e
  obtain ⟨rfl, ep⟩ := hr
  exact ⟨_, rfl, wpAny_pure ⟨_, rfl, ep⟩⟩
def rSrtK (F : CF) (S : Law) (f : Addr) (kd : Str → D) (pd : Str → PyData) : List V → List V → Hp → VK → Prop := fun vs zs H Q => ∃ (G : Hp) (W : OW) (xs : List Str) (l : Addr), vs = [.ref l] ∧ zs = [.ref f] ∧ (∀ x ∈ xs, S [.str x] [] (.ok (kd x)) []) ∧ xs.length < 64 ∧ PySem.W.AllAlike (xs.map pd) ∧ PySem.W.Sortable (xs.map pd) ∧ (∀ x ∈ xs, (pd x).depth ≤ 10) ∧
  Hk F.K F.T G W H ∧ (SqL F.K H l (xs.map V.str) ∨ SqT F.K H l (xs.map V.str)) ∧ ∀ p G' H', H p = none → Step F.K F.T G W H G' ((p, .lst ((xs.mergeSort (PySem.W.dataLe false pd)).map D.str)) :: W) H' → Q (.ref p) H'
theorem cr_srtK {X : Cx} {kd : Str → D} {pd : Str → PyData} (hX : Sat F X) (hf : FdAt F.P F.w F.K F.mg F.base F.T f k 1 S) (hkk : k + 2 ≤ F.k) (hpy : ∀ W x, Py W (kd x) (pd x)) : CallRK X (.builtin "sorted") [Str.ofString "key"] (rSrtK F S f kd pd) := by
  intro pins s σ H vs zs us ws Q I rv rz ⟨G, W, xs, l, e1, e2, hS, h64, hal, hsk, hdep, hk, hs, q⟩
  subst e1 e2
  have eu := Vals.ref1 rv
  have ew := Vals.ref1 rz
  subst eu ew
  rcases hs with hs | hs
  · exact sort_key hX hf hkk hS h64 hpy hal hsk hdep I hk (hX.K ▸ hs) q
  · exact sort_keyT hX hf hkk hS h64 hpy hal hsk hdep I hk (hX.K ▸ hs) q
/-- sorted(xs, key=g), g a def of the module -/
theorem en_sortKey {Γ : Ga} {W W1 : OW} {p p2 kp pos : Pos} {a : Expr} {d : D} {g : Str} {zs : List Str} {kd : Str → D} {pd : Str → PyData} (hg : GlS F "sorted") (hm : F.mg "sorted" = none) (hgf : GlS F g) (hmf : F.mg g = some (.ref f)) (hf : FdAt F.P F.w F.K F.mg F.base F.T f k 1 S) (hkk : k + 2 ≤ F.k) (ha : EV F a Γ W (.ok d) W1) (h : SeqD W1 d (zs.map .str))
    (hS : ∀ x ∈ zs, S [.str x] [] (.ok (kd x)) []) (h64 : zs.length < 64) (hpy : ∀ W x, Py W (kd x) (pd x)) (hal : PySem.W.AllAlike (zs.map pd)) (hsk : PySem.W.Sortable (zs.map pd)) (hdep : ∀ x ∈ zs, (pd x).depth ≤ 10)
    (he : ∀ env, starEach [a] env = (false, eval a env) :: starEach [] env := by intro _; rfl) (he2 : ∀ env, backTo pos (starEach [a] env) = (false, eval a env) :: backTo pos (starEach [] env) := by intro _; rfl) (hpl : ∀ env, (backTo pos (starEach [a] env)).any (·.1) = false := by intro _; rfl) (hdb : (g == ("__debug__" : Str)) = false := by decide) :
    EN F (.Call (.Name "sorted" p) [a] [⟨some (Str.ofString "key"), .Name g p2, kp⟩] pos) Γ W ((zs.mergeSort (PySem.W.dataLe false pd)).map .str) W1 :=
  fun G H σ Q sl hk k' => ⟨tCKw (rSrtK F S f kd pd) (tCons (cE F a) tNil) (tCons (cE F (.Name g p2)) tNil), fun X hX => pe_callBK (cr_srtK hX hf hkk hpy) (hX.gl hg) (by rw [hX.mg]; exact hm) (by decide +kernel) (pa_cons (cE_pe hX) pa_nil (he _)) (pk_cons (cE_pe hX) pk_nil) (he := he2 _) (hpl := hpl _), ha G H σ _ sl hk fun v G1 H1 s1 r1 => (ev_glob (F := F) (Γ := Γ) (W := W1) (v := .ref f) (d := .ptr f) hgf hmf rfl (fun _ => .ptr f) hdb) G1 H1 σ _ (sl.mono s1.le) s1.hk fun v2 G2 H2 s2 r2 => by
    obtain rfl := r2.ptr_inv
    have st := s1.trans s2
    cases h with
    | lst h =>
      obtain ⟨q, ws, rfl, e1, q1⟩ := h.at s2.hk (r1.mono s2.le)
      rw [q1.strs] at e1
      exact ⟨G2, W1, zs, q, rfl, rfl, hS, h64, hal, hsk, hdep, s2.hk, .inl (SqL.of e1), fun p G' H' hp st' => k' p G' H' (st.back hp) (st.trans st')⟩
    | tup =>
      obtain ⟨q, ws, rfl, e1, q1⟩ := (r1.mono s2.le).tup_inv
      rw [q1.strs] at e1
      exact ⟨G2, W1, zs, q, rfl, rfl, hS, h64, hal, hsk, hdep, s2.hk, .inr (sqt_up s2.hk e1), fun p G' H' hp st' => k' p G' H' (st.back hp) (st.trans st')⟩⟩
end
end Sh
set_option Elab.async false
set_option linter.all false
set_option maxRecDepth 100000
set_option maxHeartbeats 1000000
set_option autoImplicit false
/-! ShQt: a tuple of tuples of ints that the module holds. -/
namespace Sh
open PySem PySem.Spec PyProof.Rows L2
def isTupB (K : PySem.W.Frag) (a : Addr) (vs : List V) : Bool := match K.lookup a with
  | some ⟨.type c, none, .seq its _, _⟩ => decide (c = "tuple") && (decide (its.size ≤ sizeLine) && He.relAll vs its.toList)
  | _ => false
def innerA (K : PySem.W.Frag) (a : Addr) : List Addr := match K.lookup a with
  | some ⟨_, _, .seq its _, _⟩ => its.toList.filterMap fun v => match v with
    | .ref b => some b
    | _ => none
  | _ => []
def twoN (K : PySem.W.Frag) (x : Str) (nss : List (List Int)) : Bool := isTupB K (He.ga K x) ((innerA K (He.ga K x)).map V.ref) && (decide ((innerA K (He.ga K x)).length = nss.length) && ((innerA K (He.ga K x)).zip nss).all fun p => isTupB K p.1 (p.2.map V.int))
theorem rps_two {K : PySem.W.Frag} {G : Hp} : ∀ (as : List Addr) (nss : List (List Int)), as.length = nss.length → ((as.zip nss).all fun p => isTupB K p.1 (p.2.map V.int)) = true → Rps K G (as.map V.ref) (nss.map fun ns => D.tup (ns.map .int))
  | [], [], _, _ => .nil
  | [], _ :: _, h, _ => by cases h
  | _ :: _, [], h, _ => by cases h
  | a :: as, ns :: nss, h, q => by
    rw [List.zip_cons_cons, List.all_cons, Bool.and_eq_true] at q
    exact (rps_two as nss (by simpa using h) q.2).cons (.tup_mk (tupK_of q.1 G) (Rps.of_ints ns))
theorem two_ok {K : PySem.W.Frag} {x : Str} {nss : List (List Int)} (h : twoN K x nss = true) (G : Hp) : Rp K G (.ref (He.ga K x)) (.tup (nss.map fun ns => .tup (ns.map .int))) := by
  obtain ⟨h1, h2⟩ := He.ba h
  obtain ⟨h3, h4⟩ := He.ba h2
  exact .tup_mk (tupK_of h1 G) (rps_two _ _ (of_decide_eq_true h3) h4)
end Sh
set_option Elab.async false
set_option linter.all false
set_option maxRecDepth 100000
set_option maxHeartbeats 1000000
set_option autoImplicit false
/-! ShRt: an exception that a builtin lets through: what it made itself is forgotten. -/
namespace Sh
open PySem PySem.Spec PyProof.Rows L2
theorem ff_of {h h' base : Heap} : ∀ {l : List Env}, h.FunFrames base l → (∀ b ∈ frs l, ∀ o, h.get? b = some o → h'.get? b = some o) → h'.FunFrames base l
  | [], _, _ => trivial
  | env :: l, h, k => by
    obtain ⟨hk, ⟨L, o, hf, hn, ho, hd⟩, hr⟩ := h
    exact ⟨hk, ⟨L, o, hf, hn, k L (List.mem_filterMap.mpr ⟨env, List.mem_cons_self, hf⟩) o ho, hd⟩, ff_of hr fun b hb => k b (by
      obtain ⟨x, h1, h2⟩ := List.mem_filterMap.mp hb
      exact List.mem_filterMap.mpr ⟨x, List.mem_cons_of_mem _ h1, h2⟩)⟩
theorem cx_back {P : Program} {w : World} {outer : List Env} {H : Hp} {E : XK} {u : Value} {s0 s s' : Shared} {h2 : Heap} {ch : List Addr} {tk : Nat}
    (c : L2.CX P w outer H s E u s') (k0 : ∀ b o, s0.heap.get? b = some o → s.heap.get? b = some o) (hos : s.os = s0.os)
    (hc : ∀ b ∈ ch, s0.heap.get? b = none ∧ H b = none ∧ b ∉ frs outer ∧ ∃ o, s.heap.get? b = some o)
    (kh : ∀ b o, b ∉ ch → s'.heap.get? b = some o → h2.get? b = some o) : L2.CX P w outer H s0 E u { s' with heap := h2, toks := tk } := by
  obtain ⟨a, B, H', cls, d, rfl, ⟨f1, f2, f3, oe, vs, T, oT, ts, e1, e2, e3, e4, e5, e6, e7, e8, e9⟩, hok, ub, na, o', ag, hE⟩ := c
  have hB : ∀ b ∈ ch, ∃ o, B.get? b = some o := fun b hb => by
    obtain ⟨_, q2, q3, o, q4⟩ := hc b hb
    exact ⟨o, ub.keep b o q4 q2 q3⟩
  have off : ∀ b, B.get? b = none → b ∉ ch := fun b e hb => by
    obtain ⟨o, q⟩ := hB b hb
    rw [e] at q
    cases q
  have none2 : ∀ b, B.get? b = none → (PySem.W.hideAll B ch).get? b = none := fun b e => by
    cases q : (PySem.W.hideAll B ch).get? b with
    | none => rfl
    | some o =>
      have z := PySem.W.of_hideAll _ q
      rw [e] at z
      cases z
  have fB : ∀ b ∈ frs outer, B.get? b = none := fun b hb => (f3.mem hb).1
  refine ⟨a, PySem.W.hideAll B ch, H', cls, d, rfl, ⟨fun b o e => kh b o (fun hb => ?_) (f1 b o (PySem.W.of_hideAll _ e)), none2 a f2, ?_, oe, vs, T, oT, ts, kh _ _ (off a f2) e1, e2, e3, e4, none2 T e5, e6, kh _ _ (off T e5) e7, e8, e9⟩, fun b o q => ?_, ⟨fun b o e n hb => ?_, fun b o e hb => ?_, fun b o e n => ub.free b o (k0 b o e) n, fun b o e hb => ?_, ub.tups, ub.frzs, ub.tbls⟩, na, o'.trans hos, ag, hE⟩
  · rw [PySem.W.hideAll_none _ hb] at e
    cases e
  · exact ff_of (funFrames_none f3 fun b hb => none2 b (fB b hb)) fun b hb o e => kh b o (off b (fB b hb)) e
  · refine (hok b o q).stay (fun x v hx r => PySem.W.hideAll_get _ r fun hm => ?_) (fun _ r => r) fun _ _ r => r
    obtain ⟨_, q2, _, oo, q4⟩ := hc x hm
    have z := ub.free x oo q4 q2
    rcases hx with hx | hx
    · rw [hx, q] at z
      cases z
    · rw [hx] at z
      cases z
  · have hn : b ∉ ch := fun hm => by
      rw [(hc b hm).1] at e
      cases e
    exact PySem.W.hideAll_get _ (ub.keep b o (k0 b o e) n hb) hn
  · obtain ⟨sl, q⟩ := ub.slot b o (k0 b o e) hb
    exact ⟨sl, kh b _ (off b (fB b hb)) q⟩
  · have hn : b ∉ ch := fun hm => by
      rw [(hc b hm).1] at e
      cases e
    obtain ⟨o2, q⟩ := ub.there b o (k0 b o e) hb
    exact ⟨o2, PySem.W.hideAll_get _ q hn⟩
end Sh
set_option Elab.async false
set_option linter.all false
set_option maxRecDepth 100000
set_option maxHeartbeats 2000000
set_option autoImplicit false
/-! ShSt: sorted(xs, key=f), f raising at the first item. -/
namespace Sh
open PySem PySem.Spec PyProof.Rows L2
section
variable {F : CF} {S : Law} {f : Addr} {k : Nat}
/-- a call by its address that raises -/
theorem key_err {X : Cx} {A2 : Around} {pins : List (Addr × Obj)} {σ : L2.St} {G H : Hp} {W : OW} {s : Shared} {d : D} {u0 : V} {v : Value} {c : Addr} {R : Value → Shared → Prop} (hX : Sat F X) (hf : FdAt F.P F.w F.K F.mg F.base F.T f k 1 S) (hr : Room k A2) (hfr : A2.frames = some X.stack) (I : Inv X pins σ H s) (hk : Hk F.K F.T G W H) (hv : RelV u0 v) (hd : Rp F.K G u0 d) (hS : S [d] [] (.er c) [])
    (hE : ∀ G' H', Step F.K F.T G W H G' W H' → F.E (.ref c) none H') :
    wpAny (model X.prog X.w) A2 (call (.ref f) [v]) R (fun u s' => L2.CX X.prog X.w X.stack H s F.E u s') s := by
  obtain ⟨fd, ps, kp, hb, hn, fo⟩ := hf.ex
  have FO := FnOk.cast fo hX.P hX.w hX.K hX.mg hX.base
  have e0 := I.env0
  refine wpAny_call (codeAny_mono (FO.run A2 X.stack s H ⟨[v], []⟩ [v] [u0] (fun _ _ => False) F.E hr ⟨hfr, e0.mod, e0.bs, e0.bsz, e0.funs, e0.frf, e0.hok, e0.bare⟩ (hb s [v] (hX.K ▸ I.kIn) hn.symm) (.cons hv .nil) ⟨G, [], [d], .er c, [], hk.less (List.nil_sublist _), Rps.nil.cons hd, hS, fun G' H' st => hE G' H' (st.more hk)⟩) fun r s' hq => ?_)
  cases r with
  | error e => exact hq
  | ok fl =>
    cases fl with
    | ret u =>
      obtain ⟨uv, H', I', r', h⟩ := I.after hq
      exact h.elim
    | next => exact hq.elim
    | brk => exact hq.elim
    | cont => exact hq.elim
theorem cx_get {P : Program} {w : World} {outer : List Env} {H : Hp} {E : XK} {u : Value} {s s' : Shared} {b : Addr} {o : Obj} (c : L2.CX P w outer H s E u s') (h : s.heap.get? b = some o) (n : H b = none) (hb : b ∉ frs outer) : s'.heap.get? b = some o := by
  obtain ⟨a, B, H', cls, d, rfl, fl, hok, ub, _⟩ := c
  exact fl.1 b o (ub.keep b o h n hb)
theorem sort_core_er {X : Cx} {pins : List (Addr × Obj)} {σ : L2.St} {G H : Hp} {W : OW} {x : Str} {c : Addr} {s : Shared} {hc : Heap} {A0 : Addr} {v0 : Value} {its : List Value} {P : PySem.Fin → Shared → Prop}
    (hX : Sat F X) (hf : FdAt F.P F.w F.K F.mg F.base F.T f k 1 S) (hkk : k + 2 ≤ F.k) (hS : S [.str x] [] (.er c) []) (h64 : (v0 :: its).length < 64)
    (I : Inv X pins σ H s) (hk : Hk F.K F.T G W H) (rv : RelV (.str x) v0) (ho : hc.get? A0 = some (seqObj "list" (v0 :: its).toArray 0)) (hcold : ∀ b o, s.heap.get? b = some o → hc.get? b = some o) (hsz0 : s.heap.objs.size ≤ A0)
    (hE : ∀ G' H', Step F.K F.T G W H G' W H' → F.E (.ref c) none H') :
    wpAny (model X.prog X.w) X.A.in1.in1 (ksk_tree A0 (.ref f) false) P X.xe { s with heap := hc } := by
  have hbig : 64 < sizeLine := by decide
  have hits : (v0 :: its).length ≤ sizeLine := by omega
  obtain ⟨e1, ho1⟩ : ∃ e1, (hc.update A0 (Obj.mapSeq fun _ => (#[] : Array Value))).get? A0 = some (seqObj "list" #[] e1) := ⟨_, get?_update_seq ho fun _ => #[]⟩
  unfold ksk_tree
  refine wpAny_bind (listItems_at ho rfl ?_)
  refine wpAny_bind (listUpdate_at ho rfl ?_ (by rw [List.size_toArray]; exact hits) (Nat.zero_le _))
  refine wpAny_bind (seqEpoch_at ho1 rfl ?_)
  refine wpAny_bind (wpAny_newTuple ?_ (by show (v0 :: its).length ≤ _; exact hits))
  refine wpAny_bind (wpAny_newList ?_ (Nat.zero_le _))
  refine wpAny_holding ?_
  have hlt : ∀ b o, s.heap.get? b = some o → b < A0 := fun b o e => Nat.lt_of_lt_of_le (Heap.lt_size e) hsz0
  have su := Heap.SameBut.update hc A0 (Obj.mapSeq fun _ => (#[] : Array Value))
  generalize hup : hc.update A0 (Obj.mapSeq fun _ => (#[] : Array Value)) = hu at ho1 su ⊢
  have huold : ∀ b o, s.heap.get? b = some o → hu.get? b = some o := fun b o e => (su.2 b (Nat.ne_of_lt (hlt b o e))).trans (hcold b o e)
  have hA1 : A0 < hu.objs.size := Heap.lt_size ho1
  have room := (hX.room.mono hkk).in1.in1
  have hn : ∀ b, s.heap.objs.size ≤ b → H b = none := fun b hb => I.hok.fresh hb
  have I0 : Inv X pins σ H { s with heap := (hu.push (seqObj "tuple" (v0 :: its).toArray 0)).push (seqObj "list" #[] 0) } := I.kept (t' := s.toks) fun b o e => Heap.get?_push_of_some _ (Heap.get?_push_of_some _ (huold b o e))
  have fA : FpOk X pins H A0 := I.fpOk hsz0 (hn _ hsz0)
  have hkz : s.heap.objs.size ≤ (hu.push (seqObj "tuple" (v0 :: its).toArray 0)).objs.size := by
    rw [size_push']
    exact Nat.le_succ_of_le (Nat.le_of_lt (Nat.lt_of_le_of_lt hsz0 hA1))
  have hne : (hu.push (seqObj "tuple" (v0 :: its).toArray 0)).objs.size ≠ A0 := by
    rw [size_push']
    exact Nat.ne_of_gt (Nat.lt_succ_of_lt hA1)
  have hA2 : ((hu.push (seqObj "tuple" (v0 :: its).toArray 0)).push (seqObj "list" #[] 0)).get? A0 = some (seqObj "list" #[] e1) := Heap.get?_push_of_some _ (Heap.get?_push_of_some _ ho1)
  have hS2 : ((hu.push (seqObj "tuple" (v0 :: its).toArray 0)).push (seqObj "list" #[] 0)).get? (hu.push (seqObj "tuple" (v0 :: its).toArray 0)).objs.size = some (seqObj "list" #[] 0) := Heap.get?_push_size _ rfl
  have fS : FpOk X pins H (hu.push (seqObj "tuple" (v0 :: its).toArray 0)).objs.size := I.fpOk hkz (hn _ hkz)
  have hkeep : ∀ b o, s.heap.get? b = some o → ((hu.push (seqObj "tuple" (v0 :: its).toArray 0)).push (seqObj "list" #[] 0)).get? b = some o := fun b o e => Heap.get?_push_of_some _ (Heap.get?_push_of_some _ (huold b o e))
  generalize (hu.push (seqObj "tuple" (v0 :: its).toArray 0)).objs.size = kS at fS hkz hne hS2 ⊢
  generalize (hu.push (seqObj "tuple" (v0 :: its).toArray 0)).push (seqObj "list" #[] 0) = hh at I0 hA2 hS2 hkeep ⊢
  unfold ksk_rest
  refine wpAny_bind (wpAny_rule ?_)
  rw [List.forIn_toArray, List.forIn_cons]
  refine wpAny_bind (wpAny_bind (wpAny_bind (wpAny_attempt ?_)))
  refine wpAny_mono (key_err (R := fun _ _ => False) hX hf room I.ok.frames I0 hk rv (.str x) hS hE) (fun _ _ z => z.elim) fun u s' cx => ?_
  have nfr : ∀ b, FpOk X pins H b → b ∉ frs X.stack := fun b q hm => by
    rcases List.mem_cons.mp (I.stkSub b hm) with z | z
    · exact q.2.1 z
    · exact q.2.2.1 z
  have sA := cx_get cx hA2 fA.1 (nfr _ fA)
  have sS := cx_get cx hS2 fS.1 (nfr _ fS)
  have scS := Heap.SameBut.update s'.heap kS (Obj.mapSeq fun _ => (#[] : Array Value))
  obtain ⟨e3, hA3⟩ : ∃ e3, (s'.heap.update kS (Obj.mapSeq fun _ => (#[] : Array Value))).get? A0 = some (seqObj "list" #[] e3) := ⟨_, (scS.2 A0 hne.symm).trans sA⟩
  refine wpAny_bind (wpAny_rule ?_)
  refine wpAny_bind (listItems_at sS rfl ?_)
  refine wpAny_bind (listUpdate_at sS rfl ?_ (Nat.zero_le _) (Nat.zero_le _))
  refine wpAny_bind (PySem.wpAny_letGo ?_)
  refine wpAny_bind (listUpdate_at hA3 rfl ?_ (Nat.zero_le _) (by rw [List.size_toArray]; exact Nat.le_succ_of_le hits))
  refine wpAny_bind (wpAny_throw ?_)
  have scA := Heap.SameBut.update (s'.heap.update kS (Obj.mapSeq fun _ => (#[] : Array Value))) A0 (Obj.mapSeq fun _ => (v0 :: its).toArray)
  refine hX.pass pins σ H s u _ I (cx_back (s0 := s) (s' := s') (s := { s with heap := hh }) (ch := [A0, kS]) (tk := s'.toks) cx hkeep rfl (fun b hb => ?_) fun b o hb e => ?_)
  · have none0 : ∀ b, s.heap.objs.size ≤ b → s.heap.get? b = none := fun b hb => by
      cases q : s.heap.get? b with
      | none => rfl
      | some o => exact absurd (Nat.lt_of_lt_of_le (Heap.lt_size q) hb) (Nat.lt_irrefl _)
    rcases List.mem_cons.mp hb with rfl | hb
    · exact ⟨none0 _ hsz0, fA.1, nfr _ fA, _, hA2⟩
    · rw [List.mem_singleton.mp hb]
      exact ⟨none0 _ hkz, fS.1, nfr _ fS, _, hS2⟩
  · exact (scA.2 b fun z => hb (by simp [z])).trans ((scS.2 b fun z => hb (by simp [z])).trans e)
end
end Sh
set_option Elab.async false
set_option linter.all false
set_option maxRecDepth 100000
set_option maxHeartbeats 2000000
set_option autoImplicit false
/-! ShTt: sorted(xs, key=f), f raising at the first item: the call and the rule. -/
namespace Sh
open PySem PySem.Spec PyProof.Rows L2
section
variable {F : CF} {S : Law} {f : Addr} {k : Nat}
theorem sort_key_er {X : Cx} {pins : List (Addr × Obj)} {σ : L2.St} {G H : Hp} {W : OW} {x : Str} {xs : List Str} {c : Addr} {l : Addr} {Q : Value → Shared → Prop} {s : Shared}
    (hX : Sat F X) (hf : FdAt F.P F.w F.K F.mg F.base F.T f k 1 S) (hkk : k + 2 ≤ F.k) (hS : S [.str x] [] (.er c) []) (h64 : (x :: xs).length < 64)
    (I : Inv X pins σ H s) (hk : Hk F.K F.T G W H) (hs : SqL X.K H l ((x :: xs).map V.str) ∨ SqT X.K H l ((x :: xs).map V.str)) (hE : ∀ G' H', Step F.K F.T G W H G' W H' → F.E (.ref c) none H') :
    wpAny (model X.prog X.w) X.A (call (.builtin "sorted") [.ref l] [(Str.ofString "key", .ref f)]) Q X.xe s := by
  obtain ⟨its, T, hT, rv, o, ho, hcl, n, hd⟩ : ∃ (its : List Value) (T : String), (T = "list" ∨ T = "tuple") ∧ Vals ((x :: xs).map V.str) its ∧ ∃ o, s.heap.get? l = some o ∧ o.cls = .type T ∧ ∃ n, o.data = .seq its.toArray n := by
    rcases hs with hs | hs
    · obtain ⟨its, rv, hl, hz⟩ := I.list hs
      obtain ⟨o, n, ho, hcl, _, hd⟩ := id hl
      exact ⟨its, "list", .inl rfl, rv, o, ho, hcl, n, hd⟩
    · obtain ⟨its, rv, hl, hz⟩ := I.tuple hs
      obtain ⟨o, ho, hcl, n, hd⟩ := id hl
      exact ⟨its, "tuple", .inr rfl, rv, o, ho, hcl, n, hd⟩
  have hil : its.length = (x :: xs).length := by rw [← rv.length, List.length_map]
  have hbig : 64 < sizeLine := by decide
  refine PyProof.Rows.call_function_entry_kw kind_sorted plain_sorted entry_sorted (ksk_s1 _ _) ?_
  unfold Builtin.«sorted»
  refine wpAny_bind (m := checkCount "sorted" 1 1 _) (wpAny_pure ?_)
  refine wpAny_bind (wpAny_collect_seq l hT ho hcl hd (fun h' hh => ?_) (by rw [List.size_toArray]; omega))
  rw [List.toList_toArray]
  refine wpAny_bind (wpAny_newList ?_ (by omega))
  refine wpAny_bind (wpAny_holding (wpAny_call_entry_kw slot_list_sort ⟨_, Heap.get?_push_size _ rfl, rfl⟩ entry_list_sort ?_ (ksk_l1 _ _)))
  rw [ksk_t1]
  have I1 : Inv X pins σ H { s with heap := h' } := I.kept (t' := s.toks) hh
  rw [List.map_cons] at rv
  cases its with
  | nil => cases rv
  | cons v0 its =>
    have rv0 : RelV (.str x) v0 := by
      cases rv with
      | cons r _ => exact r
    exact sort_core_er (s := { s with heap := h' }) (hc := h'.push (seqObj "list" (v0 :: its).toArray 0)) (A0 := h'.objs.size) hX hf hkk hS (by rw [hil]; exact h64) I1 hk rv0 (Heap.get?_push_size _ rfl) (fun b o e => Heap.get?_push_of_some _ e) (Nat.le_refl _) hE
def rSrtKE (F : CF) (S : Law) (f : Addr) : List V → List V → Hp → VK → Prop := fun vs zs H Q => ∃ (G : Hp) (W : OW) (x : Str) (xs : List Str) (l c : Addr), vs = [.ref l] ∧ zs = [.ref f] ∧ S [.str x] [] (.er c) [] ∧ (x :: xs).length < 64 ∧
  Hk F.K F.T G W H ∧ (SqL F.K H l ((x :: xs).map V.str) ∨ SqT F.K H l ((x :: xs).map V.str)) ∧ ∀ G' H', Step F.K F.T G W H G' W H' → F.E (.ref c) none H'
theorem cr_srtKE {X : Cx} (hX : Sat F X) (hf : FdAt F.P F.w F.K F.mg F.base F.T f k 1 S) (hkk : k + 2 ≤ F.k) : CallRK X (.builtin "sorted") [Str.ofString "key"] (rSrtKE F S f) := by
  intro pins s σ H vs zs us ws Q I rv rz ⟨G, W, x, xs, l, c, e1, e2, hS, h64, hk, hs, hE⟩
  subst e1 e2
  have eu := Vals.ref1 rv
  have ew := Vals.ref1 rz
  subst eu ew
  exact sort_key_er hX hf hkk hS h64 I hk (hX.K ▸ hs) hE
/-- sorted(xs, key=g), g raising at the first item -/
theorem ev_sortKeyE {Γ : Ga} {W W1 : OW} {p p2 kp pos : Pos} {a : Expr} {d : D} {g : Str} {x : Str} {xs : List Str} {c : Addr} (hg : GlS F "sorted") (hm : F.mg "sorted" = none) (hgf : GlS F g) (hmf : F.mg g = some (.ref f)) (hf : FdAt F.P F.w F.K F.mg F.base F.T f k 1 S) (hkk : k + 2 ≤ F.k) (ha : EV F a Γ W (.ok d) W1) (h : SeqD W1 d ((x :: xs).map .str))
    (hS : S [.str x] [] (.er c) []) (h64 : (x :: xs).length < 64)
    (he : ∀ env, starEach [a] env = (false, eval a env) :: starEach [] env := by intro _; rfl) (he2 : ∀ env, backTo pos (starEach [a] env) = (false, eval a env) :: backTo pos (starEach [] env) := by intro _; rfl) (hpl : ∀ env, (backTo pos (starEach [a] env)).any (·.1) = false := by intro _; rfl) (hdb : (g == ("__debug__" : Str)) = false := by decide) :
    EV F (.Call (.Name "sorted" p) [a] [⟨some (Str.ofString "key"), .Name g p2, kp⟩] pos) Γ W (.er c) W1 :=
  fun G H σ Q sl hk k' => ⟨tCKw (rSrtKE F S f) (tCons (cE F a) tNil) (tCons (cE F (.Name g p2)) tNil), fun X hX => pe_callBK (cr_srtKE hX hf hkk) (hX.gl hg) (by rw [hX.mg]; exact hm) (by decide +kernel) (pa_cons (cE_pe hX) pa_nil (he _)) (pk_cons (cE_pe hX) pk_nil) (he := he2 _) (hpl := hpl _), ha G H σ _ sl hk fun v G1 H1 s1 r1 => (ev_glob (F := F) (Γ := Γ) (W := W1) (v := .ref f) (d := .ptr f) hgf hmf rfl (fun _ => .ptr f) hdb) G1 H1 σ _ (sl.mono s1.le) s1.hk fun v2 G2 H2 s2 r2 => by
    obtain rfl := r2.ptr_inv
    cases h with
    | lst h =>
      obtain ⟨q, ws, rfl, e1, q1⟩ := h.at s2.hk (r1.mono s2.le)
      rw [q1.strs] at e1
      exact ⟨G2, W1, x, xs, q, c, rfl, rfl, hS, h64, s2.hk, .inl (SqL.of e1), fun G' H' st' => k' G' H' ((s1.trans s2).trans st')⟩
    | tup =>
      obtain ⟨q, ws, rfl, e1, q1⟩ := (r1.mono s2.le).tup_inv
      rw [q1.strs] at e1
      exact ⟨G2, W1, x, xs, q, c, rfl, rfl, hS, h64, s2.hk, .inr (sqt_up s2.hk e1), fun G' H' st' => k' G' H' ((s1.trans s2).trans st')⟩⟩
end
/-- a tuple unpacked: the value raises -/
theorem s1_asgCE {F : CF} {Γ : Ga} {W W1 : OW} {pos : Pos} {e : Expr} {A : AE} {tg : Expr} {cl : Addr} (h : EV F e Γ W (.er cl) W1) (he : A.er cl W1) (hw : ∀ env : Env, env.scope = F.sc → swappedStores [tg] e env = pure none) (hs : ∀ env, swapsWithSole [tg] e pos.line env = pure false := by intro _; rfl)
    (h1 : ∀ env, (assignEach [tg] env).map (·.2) = [assign tg env] := by intro _; rfl) : S1 F (.Assign [tg] e pos) Γ W A :=
  fun G H σ De sl hk k => ⟨tAsg (cE F e) (cG (SatS F) tg), fun X hX => ps_asg (cE_pe hX.toSat) (cG_pg hX) (hs _) (hw _ hX.sc) (h1 _),
    h G H σ _ sl hk fun G' H' s => k.er cl W1 G' H' he s⟩
theorem ev_ifE {F : CF} {Γ : Ga} {W W1 : OW} {pos : Pos} {a b c : Expr} {cl : Addr} (h : ET F c Γ W (.er cl) W1) : EV F (.IfExp c a b pos) Γ W (.er cl) W1 :=
  fun G H σ Q sl hk k => ⟨tIf (cT F c) (cE F a) (cE F b), fun X hX => pe_ifExp (cT_pt hX) (cE_pe hX) (cE_pe hX), h G H σ _ sl hk fun G1 H1 s1 => k G1 H1 s1⟩
end Sh
set_option Elab.async false
set_option linter.all false
set_option maxRecDepth 100000
set_option maxHeartbeats 2000000
set_option autoImplicit false
/-! ShUt: a generator expression whose first turn raises, taken by tuple. -/
namespace Sh
open PySem PySem.Spec PyProof.Rows L2 GenW
section
variable {X : Cx} {pins : List (Addr × Obj)} {σ : L2.St} {H : Hp} {s s' : Shared}
theorem inv_xe {f : Value → Shared → Prop} (I : Inv X pins σ H s) : Inv { X with xe := f } pins σ H s :=
  ⟨⟨I.ok.mod, I.ok.kind, I.ok.glob, I.ok.blt, I.ok.above, I.ok.inj, I.ok.has, I.ok.cab, I.ok.hd, I.ok.frames, I.ok.stk, I.ok.exf, I.ok.bs, I.ok.bsz, I.ok.noex, I.ok.exfs, I.ok.funs, I.ok.frf⟩, I.os, I.bare, I.base, I.loc, I.cell, I.free, I.freeC, I.pin, I.hok, I.len⟩
/-- an exception leaves a frame that is no def's of ours -/
theorem gen_out {A : Around} {env : Env} {L : Addr} {E : XK} {u : Value} {E₁ : Value → Shared → Prop} (I : Inv X pins σ H s) (fL : FpOk X pins H L) (hf : env.frame = some L) (hA : A.frames = some (env :: X.stack)) (c : L2.CX X.prog X.w (env :: X.stack) H s E u s') :
    wpAny (model X.prog X.w) A (leaving env u) (fun _ s'' => (∃ s0, Inv X pins σ H s0 ∧ L2.CX X.prog X.w X.stack H s0 E u s'') ∧ ∀ b o, s.heap.get? b = some o → H b = none → b ≠ L → b ∉ frs X.stack → s''.heap.get? b = some o) E₁ s' := by
  obtain ⟨a, B, H', cls, d, rfl, fl, hok, ub, na, os, ag, hE⟩ := c
  have fr : ∀ b, b ∈ frs (env :: X.stack) ↔ b = L ∨ b ∈ frs X.stack := fun b => by
    simp [frs, hf]
  have nL : ∀ b, b ≠ L → b ∉ ([L] : List Addr) := fun b h => by simpa using h
  have oh : ∀ b o, (PySem.W.hideAll s.heap [L]).get? b = some o → s.heap.get? b = some o ∧ b ≠ L := fun b o e => ⟨PySem.W.of_hideAll _ e, fun z => by
    rw [PySem.W.hideAll_none _ (show b ∈ [L] by rw [z]; exact List.mem_singleton.mpr rfl)] at e
    cases e⟩
  have J : Inv X pins σ H { s with heap := PySem.W.hideAll s.heap [L] } := by
    refine I.call' (ch := [L]) rfl ⟨fun b o e n hb hx => PySem.W.hideAll_get _ e hx, fun b o e n hb hx => ⟨o.slots, PySem.W.hideAll_get _ e hx⟩, fun b o e n hx => n, fun b o e hx => ⟨o, PySem.W.hideAll_get _ e hx⟩, fun _ _ e => e, fun _ _ _ e => e, fun b ps e => ⟨#[], by rw [e]; simp⟩⟩ (fun b o q => ?_) I.bare fun b hb => ?_
    · refine (I.hok b o q).stay (fun x v hx r => PySem.W.hideAll_get _ r fun hm => ?_) (fun _ r => r) fun _ _ r => r
      rw [List.mem_singleton] at hm
      have z := fL.1
      rcases hx with hx | hx
      · rw [← hm, hx, q] at z
        cases z
      · rw [← hm, hx] at z
        cases z
    · rw [List.mem_singleton] at hb
      subst hb
      exact ⟨fL.2.2.2.1, fL.2.1, fL.2.2.2.2.1, fL.2.2.2.2.2⟩
  refine HandSPX.leaves_onZ Zc.steady hA hf fl fun h' fl' up => ⟨⟨_, J, ⟨a, B, H', cls, d, rfl, fl', hok, ⟨fun b o e n hb => ?_, fun b o e hb => ?_, fun b o e n => ub.free b o (oh b o e).1 n, fun b o e hb => ?_, ub.tups, ub.frzs, ub.tbls⟩, na, os, ag, hE⟩⟩, fun b o e n hb hs => fl'.1 b o (ub.keep b o e n fun z => ?_)⟩
  · exact ub.keep b o (oh b o e).1 n fun z => ((fr b).mp z).elim (oh b o e).2 hb
  · obtain ⟨sl, q⟩ := ub.slot b o (oh b o e).1 ((fr b).mpr (.inr hb))
    obtain ⟨_, o', e', hd⟩ := I.stack.mem hb
    rw [(oh b o e).1] at e'
    cases e'
    obtain ⟨sl2, q2⟩ := up b _ q hd
    exact ⟨sl2, q2⟩
  · exact ub.there b o (oh b o e).1 fun z => ((fr b).mp z).elim (oh b o e).2 hb
  · exact ((fr b).mp z).elim hb hs
end
/-- within a generator expression that may raise -/
abbrev CF.genE (F : CF) (scope : Scope) (cd : Value) (E : XK) : CF := { F with sc := scope, cd := cd, k := F.k - 3, E := E, q := F.q ++ "<genexpr>.", cl := none }
/-- a clause's tests, one of which may raise -/
def ETsO (F : CF) (ifs : List Expr) (Γ : Ga) (W : OW) (o : OutT) (W' : OW) : Prop := ∀ (G H : Hp) (σ : L2.St) (Q : Bool → Hp → Prop), Slots F.K G Γ σ → Hk F.K F.T G W H → KontT F G W H o W' Q → cTs F ifs σ H Q
theorem etso_nil {F : CF} {Γ : Ga} {W : OW} : ETsO F [] Γ W (.ok true) W := ets_nil
theorem etso_one {F : CF} {Γ : Ga} {W W1 : OW} {c : Expr} {o : OutT} (h : ET F c Γ W o W1) : ETsO F [c] Γ W o W1 := fun G H σ Q sl hk k => ⟨cT F c, fun X hX => pts_one (cT_pt hX), h G H σ Q sl hk k⟩
/-- the first turn raises -/
def TurnE (F : CF) (tg : Expr) (ifs : List Expr) (elt : Expr) (Γ0 : Ga) (d : D) (W : OW) (c : Addr) (We : OW) : Prop :=
  ∃ Γ1 ts, EG F (SatG F) tg Γ0 d Γ1 ts ∧ (ETsO F ifs Γ1 W (.er c) We ∨ ∃ W2, ETsO F ifs Γ1 W (.ok true) W2 ∧ EV F elt Γ1 W2 (.er c) We)
theorem turnE_elt {F : CF} {tg elt : Expr} {Γ0 Γ1 : Ga} {d : D} {W We : OW} {c : Addr} {ts : List Nat} (h : EG F (SatG F) tg Γ0 d Γ1 ts) (he : EV F elt Γ1 W (.er c) We) : TurnE F tg [] elt Γ0 d W c We := ⟨Γ1, ts, h, .inr ⟨W, etso_nil, he⟩⟩
theorem turnE_if {F : CF} {tg elt t : Expr} {Γ0 Γ1 : Ga} {d : D} {W We : OW} {c : Addr} {ts : List Nat} (h : EG F (SatG F) tg Γ0 d Γ1 ts) (he : ET F t Γ1 W (.er c) We) : TurnE F tg [t] elt Γ0 d W c We := ⟨Γ1, ts, h, .inl (etso_one he)⟩
/-- an exception out of a generator that has just begun -/
def ErP (X : Cx) (pins : List (Addr × Obj)) (σ : L2.St) (E : XK) (a : Addr) (g : Nat) (e : Value) (s' : Shared) : Prop := (∃ H0 s0, Inv X pins σ H0 s0 ∧ L2.CX X.prog X.w X.stack H0 s0 E e s') ∧ s'.heap.IsGen a g
def GReE (X : Cx) (pins : List (Addr × Obj)) (σ : L2.St) (E : XK) (a : Addr) (g : Nat) : GenEnd := fun n s₀ r s => ((r = .ok (.ret .none) ∨ r = .ok .next) ∧ False) ∨ ∃ e, r = .error e ∧ ErP X pins σ E a g e s
section
variable {F : CF} {X : Cx} {pins : List (Addr × Obj)} {σ : L2.St} {G1 : Hp} {W1 : OW} {H1 : Hp} {a : Addr} {g : Nat} {Γ : Ga} {E : XK}
theorem seg_er {Y : Cx} {A : Around} {scope : Scope} {gpos : Pos} {cd : Value} {ge : Env} {tg iter elt : Expr} {ifs : List Expr} {vs : List Nat} {d : D} {ds : List D} {Wk : OW → Prop} {J : It} {fp : List Addr} {it : Addr} {tn : Nat → Heap → Prop} {c : Addr} {s₀ s : Shared} {H2 : Hp}
    (hF : Sat F X) (hY : Sat (F.genE scope cd E) Y) (hYN : F.N.Nodup) (hYe : Y.env = ge) (hYA : Y.A = A.deeper ge) {We : OW} (hE : ∀ G' H', Step F.K F.T G1 W1 H1 G' We H' → E (.ref c) none H')
    (Tn : Turn F.P F.w F.K tg J fp it tn) (wl : Wlk F J G1 Wk (d :: ds)) (wk : Wk W1) (sl : Slots F.K G1 Γ σ) (hst : ∀ b ∈ fp, FpS Y b)
    (out : ∀ e s', Y.xe e s' → Seg (model X.prog X.w) A (GReE X pins σ E a g) (fun _ _ _ _ _ => False) 1 s₀ (.compLoop (.GeneratorExp elt [⟨tg, iter, ifs, 0⟩] scope gpos) 0 (.ref it) .none ge) ((leaving ge e).bind fun _ => .raise e) [] s')
    (hk1 : Hk F.K F.T G1 W1 H1) (I : Inv Y [] (wipe σ vs) H1 s) (ti : tn 0 s.heap) (hn : ∀ b ∈ fp, H1 b = none) (hs : TurnE (F.genE scope cd E) tg ifs elt (wipeG Γ vs) d W1 c We) :
      Seg (model X.prog X.w) A (GReE X pins σ E a g) (fun _ _ _ _ _ => False) 1 s₀
        (.compLoop (.GeneratorExp elt [⟨tg, iter, ifs, 0⟩] scope gpos) 0 (.ref it) .none ge) ((model X.prog X.w).den (.compLoop (.GeneratorExp elt [⟨tg, iter, ifs, 0⟩] scope gpos) 0 (.ref it) .none ge)) [] s := by
  have eP : F.P = X.prog := hF.P.symm
  have ew : F.w = X.w := hF.w.symm
  have eYP : Y.prog = X.prog := hY.P.trans eP
  have eYw : Y.w = X.w := hY.w.trans ew
  have hov : A.over (.compLoop (.GeneratorExp elt [⟨tg, iter, ifs, 0⟩] scope gpos) 0 (.ref it) .none ge) [] = A.deeper ge := rfl
  rw [eP, ew] at Tn
  obtain ⟨w1, _⟩ := wl G1 W1 H1 (Le.refl _) hk1 wk 0
  obtain ⟨go, w3⟩ := w1 d rfl
  obtain ⟨Γ1, ts, hg, hcase⟩ := hs
  show Seg _ A _ _ _ s₀ _ ((compTurn (.GeneratorExp elt [⟨tg, iter, ifs, 0⟩] scope gpos) 0 (.ref it) .none ge).onRaise (leaving ge)) [] s
  rw [compTurn_gen, Sem.onRaise_eq_wrap]
  refine seg_bind_wrap (wpAny_standAt ?_)
  have fpk : ∀ b ∈ fp, FpOk Y [] H1 b := fun b hb => (hst b hb).ok (hn b hb) (by simp)
  have td := Tn.item Y eYP eYw hY.K hY.calm 0 _ s _ H1 (fun _ _ => False) I fpk ti go
  rw [hYA] at td
  refine seg_bind_wrap ?_
  rw [hov]
  refine thnF td fun r0 s1 ⟨u, hr, h6⟩ => ?_
  subst hr
  refine seg_bind_wrap ?_
  rw [hov]
  refine thnF h6 fun _ s2 ⟨x, H3, I3, rx, y3, ti3, n3⟩ => ?_
  obtain ⟨s3, yp⟩ := w3 x H3 y3
  have slG : Slots F.K G1 (wipeG Γ vs) (wipe σ vs) := sl.wipe vs
  have pg := (cG_pg (tg := tg) (S := SatG (F.genE scope cd E)) ⟨hY, by rw [hY.N]; exact hYN⟩).run _ s2 _ H3 x u (fun σ4 H4 => H4 = H3 ∧ Slots F.K G1 Γ1 σ4) I3 rx (hg G1 H3 x (wipe σ vs) _ slG s3.hk.sub yp fun σ4 sl4 bt => ⟨rfl, sl4⟩)
  rw [eYP, eYw, hYe, hYA] at pg
  refine seg_bind_wrap ?_
  rw [hov]
  refine wpAny_mono pg (fun _ s4 ⟨σ4, H4, I4, e4, sl4⟩ => ?_) fun e s' h => out e s' h
  subst e4
  rcases hcase with ht | ⟨W2, ht, he⟩
  · have pt := (cTs_pts (F := F.genE scope cd E) (ifs := ifs) hY).run _ s4 σ4 H4 (fun b H5 => False) I4 (ht G1 H4 σ4 _ sl4 s3.hk fun G5 H5 s5 => hE _ _ (s3.trans s5))
    rw [eYP, eYw, hYe, hYA] at pt
    refine seg_bind_wrap ?_
    rw [hov]
    exact wpAny_mono pt (fun _ s5 ⟨H5, I5, z⟩ => z.elim) fun e s' h => out e s' h
  · have pt := (cTs_pts (F := F.genE scope cd E) (ifs := ifs) hY).run _ s4 σ4 H4 (fun b H5 => b = true ∧ ∃ G5, Step F.K F.T G1 W1 H4 G5 W2 H5) I4 (ht G1 H4 σ4 _ sl4 s3.hk fun G5 H5 s5 => ⟨rfl, G5, s5⟩)
    rw [eYP, eYw, hYe, hYA] at pt
    refine seg_bind_wrap ?_
    rw [hov]
    refine wpAny_mono pt (fun b s5 ⟨H5, I5, e5, G5, st5⟩ => ?_) fun e s' h => out e s' h
    subst e5
    simp only [if_true]
    rw [Sem.bind_eq_wrap', Sem.bind_eq_wrap', Sem.wrap_wrap, Sem.wrap_wrap]
    have pe := (cE_pe (F := F.genE scope cd E) (e := elt) hY).run _ s5 σ4 H5 (fun v H6 => False) I5 (he G5 H5 σ4 _ (sl4.mono st5.le) st5.hk fun G6 H6 s6 => hE _ _ ((s3.trans st5).trans s6))
    rw [eYP, eYw, hYe, hYA] at pe
    refine seg_wrap ?_
    rw [hov]
    exact wpAny_mono pe (fun _ s6 ⟨v, H6, I6, rv, z⟩ => z.elim) fun e s' h => out e s' h
end
def errK (F : CF) (c : Addr) : XK := fun cls d H => cls = .ref c ∧ F.E cls d H
/-- a generator expression's value: its first turn raises -/
def GMkE (F : CF) (X : Cx) (pins : List (Addr × Obj)) (σ : L2.St) (c : Addr) (u : Value) (s5 : Shared) : Prop :=
  ∃ (a : Addr) (g : Nat) (H1 : Hp), u = .ref a ∧ a < s5.heap.objs.size ∧ s5.heap.IsGen a g ∧ s5.heap.NoLimit ∧ Inv X pins σ H1 s5 ∧ ∀ (A : Around) (s6 : Shared), A.handled = none → A.frames = some X.stack → Room (F.k - 1) A →
    (∀ b o, s5.heap.get? b = some o → s6.heap.get? b = some o) → s6.os = s5.os → s6.gens = s5.gens →
    ∃ gs, s6.gens[g]? = some gs ∧ gs.Goes (model X.prog X.w) A.in1 (GReE X pins σ (errK F c) a g) (fun _ _ _ _ _ => False) 1 (.send .none) (s6.setGen g .running)
theorem gen_mkE {F : CF} {X : Cx} {pins : List (Addr × Obj)} {σ : L2.St} {G H : Hp} {W W1 : OW} {s : Shared} {Γ : Ga} {tg iter elt : Expr} {ifs : List Expr} {scope : Scope} {gpos : Pos} {own : List (Str × Nat)} {ds : List D} {Wk : OW → Prop} {c0 : Addr} {We : OW} {d0 : D}
    (hX : Sat F X) (gt : GTab F) (hk2 : 3 ≤ F.k) (hN : F.N.Nodup) (ok : BlkOk F.N F.sc scope own) (gk : GScp scope) (hi : EI F tg iter Γ W (d0 :: ds) Wk W1) (wk : Wk W1) (hs : ∀ cd E, TurnE (F.genE scope cd E) tg ifs elt (wipeG Γ (own.map (·.2))) d0 W1 c0 We) (hE : ∀ G' H', Step F.K F.T G W H G' We H' → F.E (.ref c0) none H')
    (I : Inv X pins σ H s) (sl : Slots F.K G Γ σ) (hk : Hk F.K F.T G W H) (hf : ∀ env v, genFold iter env v = pure v) :
    wpAny (model X.prog X.w) X.A (eval (.GeneratorExp elt [⟨tg, iter, ifs, 0⟩] scope gpos) X.env) (GMkE F X pins σ c0) X.xe s := by
  obtain ⟨c, P, hcd, TB, hP, hPl⟩ := gt.ex
  have okX : BlkOk X.N X.env.scope scope own := by rw [hX.N, hX.sc]; exact ok
  have hfree : ∀ y ∈ scope.names, y.2 = .free → ∃ c, X.env.cells.lookup y.1 = some c := fun y hy e => by
    rcases okX.free y hy e with k | k
    · exact I.ok.has _ (.inl k)
    · exact I.ok.has _ (.inr k)
  have hrd := hX.room.dp
  refine wpAny_GeneratorExp_make gk.co (closure_ok hfree) gk.cell gk.dot ok.kind (by omega) ?_ (hf _)
  refine thn ((cI_pi (tg := tg) (iter := iter) hX).run pins s σ H (fun J H1 => ∃ G1, Step F.K F.T G W H G1 W1 H1 ∧ Wlk F J G1 Wk (d0 :: ds)) I (hi G H σ _ sl hk fun J G1 H1 st wl => ⟨G1, st, wl⟩)) fun xv s1 hx => thn hx fun itv s2 h2 => ?_
  obtain ⟨it, fp, tn, J, H2, e, I2, Tn, ti2, f2, G1, st2, wl⟩ := h2
  subst e
  refine ⟨I2.nolimit, ?_⟩
  obtain ⟨ps, hPt, ht⟩ := st2.hk.tab.1 P hP
  have hcode : X.env.code = .ref c := hX.cd.trans hcd
  rw [← hX.base, ← hX.mg] at TB
  have hPs : s2.heap.get? P = some { cls := .none, data := .fields ps } := I2.hok P _ hPt
  have cd := TB.code.keeps I2.bk
  have cont : ∀ (code : Value) (h3 : Heap) (tk : Nat) (ps' more : Array Value), ps' = ps ++ more → (∀ b o, b ≠ P → s2.heap.get? b = some o → h3.get? b = some o) → h3.get? P = some { cls := .none, data := .fields ps' } → TriplesOk ps'.toList →
      wpAny (model X.prog X.w) X.A (builtinsFor X.env.globals X.env.builtins) (fun bi s₄ =>
        ∀ h', h'.Ns s₄.heap.objs.size (fun y => if y = ".0" then some (.ref it) else none) → Heap.SameBut s₄.heap.objs.size (s₄.heap.push { cls := .type "frame", data := .dict #[] }) h' →
          GMkE F X pins σ c0 (.ref h'.objs.size) { s₄ with
            gens := s₄.gens.push (.fresh (.compStart (.GeneratorExp elt [⟨tg, iter, ifs, 0⟩] scope gpos) 0 (.ref it) .none (genEnv scope (cloFrom X.env.cells scope.names []) s₄.heap.objs.size code bi X.env))),
            toks := s₄.toks + 1 + 1 + 1,
            heap := h'.push { cls := .type "generator", data := .fields #[.int s₄.gens.size 0, .str "<genexpr>" (s₄.toks + 1), .str (X.env.qual ++ "<genexpr>") (s₄.toks + 1 + 1)] } }) X.xe { s2 with heap := h3, toks := tk } := by
    intro code h3 tk ps' more em hx hP3 ht3
    obtain ⟨bm, ob, e1, e2, e3, e4, e5, e6, e7, e8⟩ := TB.bm
    have nP : ∀ b, H2 b = none → b ≠ P := fun b q z => by
      rw [z, hPt] at q
      cases q
    have keep3 : ∀ b u, b ≠ P → s2.heap.get? b = some u → h3.get? b = some u := hx
    have J3 : Inv X pins σ (upd H2 P (.tbl (ps ++ more))) { s2 with heap := h3, toks := tk } :=
      GxR.inv_tab (g' := s2.gens) (d' := s2.drawn) I2 hPt (fun b o hb e => hx b o hb e) (by rw [← em]; exact hP3) I2.bare
    refine wpAny_builtinsFor (m := X.mg) (by rw [I2.ok.glob]; exact J3.mod.glob.keeps J3.bk) e1 e2 (J3.bk _ _ e5) e6 e7 e8 ?_
    intro h' hn hsb
    generalize hs4 : ({ s2 with heap := h3, toks := tk } : Shared) = s4 at J3 hn hsb ⊢
    have h34 : s4.heap = h3 := by rw [← hs4]
    have os4 : s4.os = s2.os := by rw [← hs4]
    rw [h34] at hn hsb ⊢
    have st4 := st2.trans (st2.hk.grow hPt (ps' := ps ++ more) (by rw [← em]; exact ht3) hPl)
    have ti4 : tn 0 s4.heap := Tn.keep _ _ _ ti2 fun b hb o e => by rw [h34]; exact keep3 b o (nP b (f2 b hb).1) e
    have fp4 : ∀ b ∈ fp, FpOk X pins (upd H2 P (.tbl (ps ++ more))) b ∧ b < s4.heap.objs.size := fun b hb => by
      obtain ⟨o, e, _⟩ := Tn.obj _ _ ti4 b hb
      exact ⟨⟨by rw [upd_ne (nP b (f2 b hb).1)]; exact (f2 b hb).1, (f2 b hb).2⟩, Heap.lt_size e⟩
    generalize hH4 : upd H2 P (.tbl (ps ++ more)) = H4 at J3 st4 fp4
    have hsz : h'.objs.size = s4.heap.objs.size + 1 := by rw [hsb.1, Heap.size_push, h34]
    generalize hob : ({ cls := .type "generator", data := .fields #[.int s4.gens.size 0, .str "<genexpr>" (s4.toks + 1), .str (X.env.qual ++ "<genexpr>") (s4.toks + 1 + 1)] } : Obj) = ob
    have hobc : ob.cls = .type "generator" ∧ ob.data = .fields #[.int s4.gens.size 0, .str "<genexpr>" (s4.toks + 1), .str (X.env.qual ++ "<genexpr>") (s4.toks + 1 + 1)] ∧ ob.slots = #[] := by rw [← hob]; exact ⟨rfl, rfl, rfl⟩
    have hobf : ob.isFreed = false := by rw [← hob]; rfl
    have kp5 : ∀ b o, s4.heap.get? b = some o → (h'.push ob).get? b = some o := fun b o e => by
      rw [h34] at e
      exact Heap.get?_push_of_some _ (hsb.extBut b o (Nat.ne_of_lt (Heap.lt_size e)) (Heap.get?_push_of_some _ e))
    have hget : (h'.push ob).get? h'.objs.size = some ob := Heap.get?_push_size _ hobf
    generalize hgc : GenState.fresh (.compStart (.GeneratorExp elt [⟨tg, iter, ifs, 0⟩] scope gpos) 0 (.ref it) .none (genEnv scope (cloFrom X.env.cells scope.names []) h3.objs.size code builtinsNs X.env)) = gfr
    have hgb : gfr.bare = true := by rw [← hgc]; rfl
    generalize hs5 : ({ s4 with gens := s4.gens.push gfr, toks := s4.toks + 1 + 1 + 1, heap := h'.push ob } : Shared) = s5
    have h5 : s5.heap = h'.push ob := by rw [← hs5]
    have os5 : s5.os = s4.os := by rw [← hs5]
    have g5 : s5.gens = s4.gens.push gfr := by rw [← hs5]
    have bare5 : AllBare s5.gens := by rw [g5]; exact J3.bare.push hgb
    have hgen : s5.heap.IsGen h'.objs.size s4.gens.size := by rw [h5]; exact ⟨ob, _, _, hget, hobc.1, hobc.2.1, hobc.2.2⟩
    have J5 : Inv X pins σ H4 s5 := (show Slp [] s4 s5 from ⟨os5, bare5, fun b o _ e => by rw [h5]; exact kp5 b o e, fun b hb => by cases hb⟩).inv J3 fun b hb => by cases hb
    refine ⟨h'.objs.size, s4.gens.size, H4, rfl, ?_, hgen, J5.nolimit, J5, fun A s6 hA1 hA2 hr k6 os6 g6 => ⟨gfr, ?_, ?_⟩⟩
    · rw [h5, Heap.size_push]
      exact Nat.lt_succ_self _
    · rw [g6, g5]
      exact Array.getElem?_push_size ..
    · have Y0 := gn_start (A := A.in1.deeper (genEnv scope (cloFrom X.env.cells scope.names []) s4.heap.objs.size code builtinsNs X.env)) (code := code) (gs := s5.gens) (tk := s4.toks + 1 + 1 + 1) (own := own) (fp := fp) (scope := scope) (h' := h') (ob := ob) (m := fun y => if y = ".0" then some (.ref it) else none)
        J3 okX gk (by rw [hX.N]; exact hN) fp4 (by show (A.frames).map _ = _; rw [hA2]; rfl) (fun _ => hA1) (by rw [h34]; exact hn) (by rw [h34]; exact hsb) (fun v e => by rw [hobc.2.1] at e; cases e) hobf bare5
      have e5 : ({ s4 with gens := s5.gens, toks := s4.toks + 1 + 1 + 1, heap := h'.push ob } : Shared) = s5 := by rw [← hs5]
      rw [e5] at Y0
      rw [← h34] at hgc
      generalize hge : genEnv scope (cloFrom X.env.cells scope.names []) s4.heap.objs.size code builtinsNs X.env = ge at Y0 hgc
      have geL : ge.locals = s4.heap.objs.size := by rw [← hge]; rfl
      have geF : ge.frame = some ge.locals := by rw [← hge]; rfl
      have geS : ge.scope = scope := by rw [← hge]; rfl
      have geC : ge.cells = cloFrom X.env.cells scope.names [] := by rw [← hge]; rfl
      have geD : ge.code = code := by rw [← hge]; rfl
      have geQ : ge.qual = F.q ++ "<genexpr>." := by rw [← hge, ← hX.qual]; rfl
      have hst : ∀ b ∈ fp, FpS (gnCx X s4 H4 ge fp [(h'.objs.size, ob)] (A.in1.deeper ge)) b := fun b hb => by
        have hcm : ∀ y c, ge.cells.lookup y = some c → X.env.cells.lookup y = some c ∧ c < s4.heap.objs.size := fun y c e => by
          rw [geC] at e
          rcases cloFrom_mem (PySem.mem_of_lookup e) with hm | ⟨h1, rfl⟩
          · cases hm
          · obtain ⟨c, hc⟩ := hfree _ h1 rfl
            rw [hc]
            obtain ⟨w, q⟩ := J3.cell _ _ hc
            exact ⟨rfl, q.lt⟩
        have hlt := (fp4 b hb).2
        refine ⟨by show b ≠ ge.locals; rw [geL]; exact Nat.ne_of_lt hlt, fun q => ?_, .inl hb, fun y c e q => ?_, fun p hp => ?_⟩
        · rcases List.mem_cons.mp (J3.stkSub b q) with q | q
          · exact (fp4 b hb).1.2.1 q
          · exact (fp4 b hb).1.2.2.1 q
        · exact (fp4 b hb).1.2.2.2.2.1 y c (hcm y c e).1 q
        · have hp : p ∈ [(h'.objs.size, ob)] := hp
          rw [List.mem_singleton] at hp
          subst hp
          exact ad_ne2 hsz hlt
      have nSs : ∀ b ∈ fp, H4 b = none := fun b hb => (fp4 b hb).1.1
      have YS : Sat (F.genE scope code (errK F c0)) { gnCx X s4 H4 ge fp [(h'.objs.size, ob)] (A.in1.deeper ge) with xe := fun e s' => ∃ pins' σ' H' s1, Inv (gnCx X s4 H4 ge fp [(h'.objs.size, ob)] (A.in1.deeper ge)) pins' σ' H' s1 ∧ L2.CX X.prog X.w (ge :: X.stack) H' s1 (errK F c0) e s' } := ⟨hX.P, hX.w, hX.K, hX.mg, hX.base, hX.N, geS, geD, by
        refine Room.deeper (k := F.k - 3) (A := A.in1) ⟨hA1, ?_, ?_⟩ ge
        · have := hr.dp
          show A.depth + 3 * (F.k - 3 + 1) + 5 < _
          omega
        · have := hr.un
          show A.units + 1 + 16 * (F.k - 3 + 1) + 200 < _
          omega, hX.calm, fun pins' σ' H' s1 e s' I c => ⟨pins', σ', H', s1, inv_xe I, c⟩, geQ, (fun _ e => nomatch e), fun _ e => nomatch e⟩
      have gl := fun out ii => seg_er (pins := pins) (iter := iter) (a := h'.objs.size) (g := s4.gens.size) (gpos := gpos) (A := A.in1) (vs := own.map (·.2)) (s₀ := s6.setGen s4.gens.size .running) (s := s6.setGen s4.gens.size .running) (H2 := H4) (E := errK F c0) hX YS hN rfl rfl (fun G' H' st => ⟨rfl, hE G' H' (st4.trans st)⟩) (by rw [← hX.P, ← hX.w, ← hX.K]; exact Tn) wl wk (sl.mono st4.le) hst out st4.hk ii
          (Tn.keep _ _ _ ti4 fun b hb o e => k6 b o (by rw [h5]; exact kp5 b o e)) nSs (hs code (errK F c0))
      have gl := gl (fun e s' ⟨pins', σ', H', s1, I', c⟩ => ?_) (inv_xe (Slp.inv (Ss := []) ⟨os6, allBare_setGen (by rw [g6]; exact bare5) rfl, fun b o _ e => k6 b o e, fun b hb => by cases hb⟩ Y0 fun b hb => by cases hb))
      · subst hgc
        refine ⟨rfl, ?_⟩
        show Seg _ A.in1 _ _ _ _ _ ((compStart (.GeneratorExp elt [⟨tg, iter, ifs, 0⟩] scope gpos) 0 (.ref it) .none ge).onRaise (leaving ge)) [] _
        unfold compStart
        rw [Sem.onRaise_eq_wrap]
        show Seg _ A.in1 _ _ _ _ _ ((ask >>= _).wrap _ _ _ _) [] _
        refine seg_bind_wrap (wpAny_askSetting ?_)
        split
        · exact seg_again rfl gl
        · refine seg_bind_wrap (wpAny_rule (seg_bind_wrap (wpAny_standAt (seg_bind_wrap ?_))))
          exact Tn.self _ 0 _ _ _ (Tn.keep _ _ _ ti4 fun b hb o e => k6 b o (by rw [h5]; exact kp5 b o e)) (seg_again rfl gl)
      · have Ib : Inv X pins σ H' s1 := J3.call' (ch := fp) I'.os I'.base I'.hok I'.bare fun b hb => ⟨(fp4 b hb).1.2.2.2.1, (fp4 b hb).1.2.1, (fp4 b hb).1.2.2.2.2.1, (fp4 b hb).1.2.2.2.2.2⟩
        have nL : H' ge.locals = none := I'.free
        have fL : FpOk X pins H' ge.locals := J3.fpOk (by rw [geL]; exact Nat.le_refl _) nL
        have hp := I'.pin (h'.objs.size, ob) (List.mem_append_left _ (List.mem_singleton.mpr rfl))
        refine seg_bind (wpAny_mono (gen_out (E₁ := fun _ _ => False) Ib fL geF (by show (A.frames).map _ = _; rw [hA2]; rfl) c) (fun _ s2' ⟨⟨sz, Iz, cz⟩, kz⟩ => seg_end (.error e) (.inr ⟨e, rfl, ⟨H', sz, Iz, cz⟩, ?_⟩)) fun _ _ z => z.elim)
        exact ⟨ob, _, _, kz _ _ hp.1 hp.2.1 hp.2.2.1 hp.2.2.2.1, hobc.1, hobc.2.1, hobc.2.2⟩
  cases hfc : codeAmong gpos ps.toList with
  | none =>
    refine wpAny_genexprCodeX hcode (cd.code hPs ht) (cd.tab hPs) hfc fun c' h' tk hx hge hlt hco' _ htab' _ => ?_
    obtain ⟨o1, vs, f1, tf, fl, tg, inF, tx, tt, op, _, _, _, _, _, _, _, _, _, htr, _⟩ := hco'
    exact cont _ h' tk _ _ rfl (fun b o hb e => hx b o hb e) htab'.2 htr
  | some cv =>
    refine wpAny_genexprCode_hit hcode (cd.code hPs ht) hfc ?_
    exact cont cv s2.heap s2.toks ps #[] (by simp) (fun _ _ _ e => e) hPs ht
section
variable {F : CF} {X : Cx} {pins : List (Addr × Obj)} {σ : L2.St} {H : Hp} {s s' : Shared} {A : Around} {c : Addr}
theorem cx_keep {E : XK} {u : Value} (I : Inv X pins σ H s) (x : L2.CX X.prog X.w X.stack H s E u s') {b : Addr} {o : Obj} (e : X.base.get? b = some o) : s'.heap.get? b = some o := by
  obtain ⟨a, B, H', cls, d, rfl, fl, hok, ub, na, os, ag, hE⟩ := x
  obtain ⟨e1, n1⟩ := I.bs b o e
  refine fl.1 b o (ub.keep b o e1 n1 fun hm => ?_)
  rcases List.mem_cons.mp (I.stkSub b hm) with z | z
  · have h1 := Heap.lt_size e
    have h2 := I.ok.bsz
    have h3 := I.ok.above
    rw [z] at h1
    exact absurd (Nat.lt_of_lt_of_le h1 (Nat.le_trans h2 h3)) (Nat.lt_irrefl _)
  · exact I.ok.nofr e z
theorem erp_out (hX : Sat F X) {a : Addr} {g : Nat} {e : Value} (h : ErP X pins σ (errK F c) a g e s') : X.xe e (s'.setGen g .finished) := by
  obtain ⟨⟨H0, s0, I, x⟩, _⟩ := h
  obtain ⟨q, B, H', cls, d, rfl, fl, hok, ub, na, os, ag, hE⟩ := x
  exact hX.pass pins σ H0 s0 _ _ I ⟨q, B, H', cls, d, rfl, fl, hok, ub, na, os, allBare_setGen ag rfl, hE.2⟩
theorem next_er {Q : Option Value → Shared → Prop} {s6 : Shared} {a : Addr} {g : Nat} {gs : GenState} (hX : Sat F X) (hns : PySem.W.subIn F.K (.ref c) (.type "StopIteration") = some false) (hh : A.handled = none) (hd : A.depth < recursionLimit) (hl : s6.heap.NoLimit) (hg : s6.heap.IsGen a g) (hgs : s6.gens[g]? = some gs)
    (goes : gs.Goes (model X.prog X.w) A.in1 (GReE X pins σ (errK F c) a g) (fun _ _ _ _ _ => False) 1 (.send .none) (s6.setGen g .running)) : wpAny (model X.prog X.w) A (pyNext (.ref a)) Q X.xe s6 := by
  refine next_genG (n := 1) (F := fun _ _ _ => False) (Er := ErP X pins σ (errK F c) a g) (Y := fun _ _ _ _ _ => False) hh hl hd hg hgs goes (fun v s1 gs' hb hy => hy.elim) (fun s1 he h' hk => he.elim) fun e s1 he => ⟨he.2, ?_, erp_out hX he⟩
  obtain ⟨⟨H0, s0, I, x⟩, _⟩ := he
  refine notStop_of (K := X.K) (fun cls d H z => ?_) (fun b o e => cx_keep I x (I.ok.mod.kin b o e)) x
  rw [hX.K, z.1]
  exact hns
/-- all items in a row: the first raises -/
theorem collect_er {u : Value} {Q : List Value → Shared → Prop} (hX : Sat F X) (hns : PySem.W.subIn F.K (.ref c) (.type "StopIteration") = some false) (h : GMkE F X pins σ c u s) (hA : A.frames = some X.stack) (hh : A.handled = none) (hd : A.depth + 3 * F.k + 5 < recursionLimit) (hu : A.units + 16 * F.k + 190 < cLine) (hk : 1 ≤ F.k) : wpAny (model X.prog X.w) A (collect u) Q X.xe s := by
  obtain ⟨a, g, H1, rfl, hlt, hg, hl, I1, mk⟩ := h
  have hSa : s.heap.objs.size ≠ a := Nat.ne_of_gt hlt
  unfold collect
  refine wpAny_bind (wpAny_runValue (codeAny_builtin PySem.F.entry_proto_collect ?_))
  rw [Around.under_plainId PySem.F.plain_proto_collect _]
  show wpAny _ A.in1 (newList [] >>= fun l => again (.builtin "list.__iadd__" ⟨[l, .ref a], []⟩)) _ _ s
  refine wpAny_bind (wpAny_newObj_type ?_)
  refine wpAny_pure ⟨plainId_quiet PySem.F.plain_list_iadd _, codeAny_builtin PySem.F.entry_list_iadd ?_⟩
  rw [Around.under_plainId PySem.F.plain_list_iadd _]
  have k1 : ∀ b o, s.heap.get? b = some o → (s.heap.push { cls := .type "list", data := .seq ([] : List Value).toArray }).get? b = some o := fun b o e => Heap.get?_push_of_some _ e
  have hS₁ : (s.heap.push { cls := .type "list", data := .seq ([] : List Value).toArray }).get? s.heap.objs.size = some { cls := .type "list", data := .seq ([] : List Value).toArray } := Heap.get?_push_size _ rfl
  show wpAny _ A.in1 (Builtin.List.listExtendWith (.ref s.heap.objs.size) (.ref a) (.ref s.heap.objs.size)) _ _ _
  unfold Builtin.List.listExtendWith
  refine wpAny_bind (wpAny_typeOf (Heap.IsGen.typeIs (s := { s with heap := _ }) (hg.keeps k1)) ?_)
  have h1 : Builtin.List.listSameRef (.ref s.heap.objs.size) (.ref a) = false := by simp [Builtin.List.listSameRef, hSa]
  have h2 : (Value.type "generator" == Value.type "list") = false := by decide
  have h3 : (Value.type "generator" == Value.type "tuple") = false := by decide
  simp only [h1, h2, h3, Bool.or_false, Bool.false_eq_true, if_false]
  refine wpAny_bind (wpAny_pyIter_gen (s := { s with heap := _ }) (hg.keeps k1) ?_)
  refine wpAny_bind (wpAny_holding ?_)
  unfold Builtin.List.listLengthHint
  refine wpAny_bind (wpAny_specialOf (Heap.IsGen.typeIs (s := { s with heap := _ }) (hg.keeps k1)) PySem.F.gen_no_len ?_)
  show wpAny _ A.in1 (specialOf (Value.ref a) (Str.ofString "__length_hint__") >>= _) _ _ _
  refine wpAny_bind (wpAny_specialOf (Heap.IsGen.typeIs (s := { s with heap := _ }) (hg.keeps k1)) PySem.F.gen_no_hint ?_)
  refine wpAny_pure ?_
  show wpAny _ A.in1 (rule "list.extend.makes-room" >>= fun _ => Builtin.List.listTouch (.ref s.heap.objs.size) >>= fun _ =>
    again (.builtin "list.extend.loop" ⟨[.ref s.heap.objs.size, .ref a, .ref s.heap.objs.size], []⟩)) _ _ _
  refine wpAny_bind (wpAny_rule ?_)
  refine wpAny_bind ?_
  show wpAny _ A.in1 (updateSeq s.heap.objs.size (·.push .none) >>= fun _ => updateSeq s.heap.objs.size (·.pop)) _ _ _
  refine wpAny_bind (wpAny_updateSeq hS₁ rfl ?_)
  have hS₂ := Heap.get?_update_self (Obj.mapSeq (·.push Value.none)) hS₁ rfl
  refine wpAny_updateSeq hS₂ rfl ?_
  have kp : ∀ b o, s.heap.get? b = some o →
      (((s.heap.push { cls := .type "list", data := .seq ([] : List Value).toArray }).update s.heap.objs.size (Obj.mapSeq (·.push Value.none))).update s.heap.objs.size (Obj.mapSeq (·.pop))).get? b = some o :=
    fun b o e => (Heap.get?_update_other _ _ (Ne.symm (Nat.ne_of_lt (Heap.lt_size e)))).trans ((Heap.get?_update_other _ _ (Ne.symm (Nat.ne_of_lt (Heap.lt_size e)))).trans (k1 b o e))
  refine wpAny_pure ⟨plainId_quiet PySem.F.plain_extend_loop _, codeAny_builtin PySem.F.entry_extend_loop ?_⟩
  rw [Around.under_plainId PySem.F.plain_extend_loop _]
  show wpAny _ A.in1 (pyNext (.ref a) >>= _) _ _ _
  obtain ⟨gs, hgs, goes⟩ := mk A.in1 { s with heap := ((s.heap.push { cls := .type "list", data := .seq ([] : List Value).toArray }).update s.heap.objs.size (Obj.mapSeq (·.push Value.none))).update s.heap.objs.size (Obj.mapSeq (·.pop)) } hh hA ⟨hh, by show A.depth + 3 * (F.k - 1) + 5 < _; omega, by show A.units + 1 + 16 * (F.k - 1) + 200 < _; omega⟩ kp rfl rfl
  exact wpAny_bind (next_er hX hns hh (by show A.depth < _; omega) (hl.keeps kp) (hg.keeps kp) hgs goes)
theorem code_tuple_new_e {u : Value} {E : Value → Shared → Prop} {Q₁ : Value → Shared → Prop} (hty : s.TypeIs u "generator") (hcol : ∀ (Q' : List Value → Shared → Prop), wpAny (model X.prog X.w) A.in1 (collect u) Q' E s) :
    codeAny (model X.prog X.w) A (.call (.builtin "tuple.__new__") ⟨[.type "tuple", u], []⟩) (wants Q₁ E) s := by
  refine codeAny_of_tree ?_
  show wpAny _ A.in1 (do checkBuiltinCall "tuple.__new__" ⟨[.type "tuple", u], []⟩; again (.builtin "tuple.__new__" ⟨[.type "tuple", u], []⟩)) _ _ s
  refine wpAny_bind (wpAny_of_eq (PySem.F.newCall_tuple_1 _) (wpAny_pure ⟨plainId_quiet PySem.F.plain_tuple_new _, codeAny_builtin PySem.F.entry_tuple_new ?_⟩))
  rw [Around.under_plainId PySem.F.plain_tuple_new _]
  have hsub := sub_tuple_self
  have hinit := init_tuple_lookup
  have hmh := madeHere_tuple
  wp_walk using wpAny_typeOf hty, hcol
end
/-- a generator expression whose first turn raises -/
def GenHE (F : CF) (e : Expr) (Γ : Ga) (W : OW) (c : Addr) (We : OW) : Prop := 3 ≤ F.k ∧ ∀ (X : Cx) (pins : List (Addr × Obj)) (σ : L2.St) (G H : Hp) (s : Shared), Sat F X → Inv X pins σ H s → Slots F.K G Γ σ → Hk F.K F.T G W H → (∀ G' H', Step F.K F.T G W H G' We H' → F.E (.ref c) none H') →
  wpAny (model X.prog X.w) X.A (eval e X.env) (GMkE F X pins σ c) X.xe s
section
variable {F : CF} {Γ : Ga} {W W1 We : OW} {e : Expr} {p pos : Pos} {c : Addr}
theorem gen_hE {tg iter elt : Expr} {ifs : List Expr} {scope : Scope} {gpos : Pos} {own : List (Str × Nat)} {d : D} {ds : List D} {Wk : OW → Prop} (gt : GTab F) (hk2 : 3 ≤ F.k) (hN : F.N.Nodup) (ok : blkC F.N F.sc scope own = true) (gk : GScp scope) (hi : EI F tg iter Γ W (d :: ds) Wk W1) (wk : Wk W1)
    (hs : ∀ cd E, TurnE (F.genE scope cd E) tg ifs elt (wipeG Γ (own.map (·.2))) d W1 c We) (hf : ∀ env v, genFold iter env v = pure v := by intro _ _; rfl) : GenHE F (.GeneratorExp elt [⟨tg, iter, ifs, 0⟩] scope gpos) Γ W c We :=
  ⟨hk2, fun X pins σ G H s hX I sl hk hE => gen_mkE hX gt hk2 hN (blkOk_by ok) gk hi wk hs hE I sl hk hf⟩
/-- tuple(x for ..), the first turn raises -/
theorem ev_tupGE (hg : GlS F "tuple") (hm : F.mg "tuple" = none) (hns : PySem.W.subIn F.K (.ref c) (.type "StopIteration") = some false) (h : GenHE F e Γ W c We) (he : ∀ env, starEach [e] env = (false, eval e env) :: starEach [] env := by intro _; rfl) : EV F (.Call (.Name "tuple" p) [e] [] pos) Γ W (.er c) We :=
  fun G H σ Q sl hk k => ⟨fun σ H Q => Slots F.K G Γ σ ∧ Hk F.K F.T G W H ∧ ∀ G' H', Step F.K F.T G W H G' We H' → F.E (.ref c) none H', fun X hX => ⟨fun pins s σ H Q I ⟨sl, hk, k⟩ => by
    have hr := hX.room
    refine wpAny_Call_Name_kw (ld_blt I (hX.gl hg) (by rw [hX.mg]; exact hm) (u := .type "tuple") (by decide +kernel) ?_ (by decide) (by decide))
    refine PyProof.Rows.callWith_type1 ?_ (he _) rfl
    rw [he]
    show wpAny _ _ (spliced ((false, eval e X.env) :: backTo pos (starEach [] X.env))) _ _ s
    refine Calls.spliced_cons (thn (h.2 X pins σ G H s hX I sl hk k) fun u s1 hG => ?_)
    refine Calls.spliced_nil ?_
    refine callType_codes (Q₁ := fun obj s₁ => False) PySem.F.called_tuple (PySem.F.typeCall_tuple_1 _) PySem.F.entry_object_init
      (code_tuple_new_e (by obtain ⟨a, g, _, rfl, _, hg, _⟩ := hG; exact hg.typeIs) fun Q' => collect_er (A := X.A.in1.in1) hX hns hG I.ok.frames hr.hd (by have := hr.dp; show X.A.depth + _ + _ < _; omega) (by have := hr.un; show X.A.units + 1 + 1 + 16 * F.k + 190 < _; omega) (by have := h.1; omega)) fun obj s₁ h₁ => h₁.elim⟩, sl, hk, k⟩
end
end Sh
set_option Elab.async false
set_option linter.all false
set_option maxRecDepth 100000
set_option maxHeartbeats 2000000
set_option autoImplicit false
/-! ShVt: dict comprehensions with pairs as keys; one whose first key raises. -/
namespace Sh
open PySem PySem.Spec PyProof.Rows L2
section
variable {X : Cx} {pins : List (Addr × Obj)} {σ : L2.St} {H : Hp} {s : Shared}
/-- what is known where the loop begins -/
structure DcB (X : Cx) (pins : List (Addr × Obj)) (σ : L2.St) (vs : List Nat) (scope : Scope) (fp : List Addr) (H3 : Hp) (s3 s4 : Shared) (ce : Env) : Prop where
  i3 : Inv X pins σ H3 s3
  fp3 : ∀ b ∈ fp, FpOk X pins H3 b ∧ b < s3.heap.objs.size
  eq : ∃ cl, ce = compEnvC scope cl s3.heap.objs.size X.env
  i4 : Inv (X.blk s3 H3 scope ce fp) [] (wipe σ vs) H3 s4
theorem DcB.stat {vs : List Nat} {scope : Scope} {fp : List Addr} {H3 : Hp} {s3 s4 : Shared} {ce : Env} (b : DcB X pins σ vs scope fp H3 s3 s4 ce) {f : Value → Shared → Prop} {σ' : L2.St} {H' : Hp} {s' : Shared} (I' : Inv { X.blk s3 H3 scope ce fp with xe := f } [] σ' H' s') (hn : ∀ b ∈ fp, H' b = none) :
    ∀ b ∈ fp, FpOk { X.blk s3 H3 scope ce fp with xe := f } [] H' b := fun b hb =>
  ⟨hn b hb, (I'.ok.exf b hb).1, I'.ok.exfs b hb, .inl hb, fun x c e => (I'.ok.exf b hb).2 x c e, fun p hp => absurd (show p ∈ ([] : List (Addr × Obj)) ++ [] from hp) (by simp)⟩
theorem dc_begin {Q : Value → Shared → Prop} {kx vx tg iter : Expr} {ifs : List Expr} {scope : Scope} {own : List (Str × Nat)} {pos pos' : Pos} {wi : TI} {Qi : It → Hp → Prop} {o0 : Addr → HO}
    (hN : X.N.Nodup) (I : Inv X pins σ H s) (hi : PI X tg iter wi) (ok : BlkOk X.N X.env.scope scope own) (hs : ∀ x, foldedSetIterable iter X.env x = pure x) (h : wi σ H Qi) (ho : ∀ (H' : Hp) (h : Heap), sysModules < h.objs.size → ObjOk X.prog X.w H' (h.push { cls := .type "dict", data := .dict #[] }) h.objs.size (o0 h.objs.size))
    (body : ∀ (it D : Addr) (fp : List Addr) (tn : Nat → Heap → Prop) (J : It) (H2 : Hp) (s3 s4 : Shared) (ce : Env), Qi J H2 → H2 D = none → Turn X.prog X.w X.K tg J fp it tn → tn 0 s4.heap → DcB X pins σ (own.map (·.2)) scope fp (upd H2 D (o0 D)) s3 s4 ce →
      codeAny (model X.prog X.w) X.A (.compLoop (.DictComp kx vx [⟨tg, iter, ifs, 0⟩] scope pos) 0 (.ref it) (.ref D) ce) (compEnds (model X.prog X.w) X.A X.xe none Q (.ref D) ce) s4) :
    wpAny (model X.prog X.w) X.A (comprehension (.DictComp kx vx [⟨tg, iter, ifs, 0⟩] scope pos) scope X.env pos' newDict false (eval iter X.env) none) Q X.xe s := by
  have hfree : ∀ y ∈ scope.names, y.2 = .free → ∃ c, X.env.cells.lookup y.1 = some c := fun y hy e => by
    rcases ok.free y hy e with k | k
    · exact I.ok.has _ (.inl k)
    · exact I.ok.has _ (.inr k)
  refine comprehension_at (use := none) rfl hs (closure_ok hfree) ok.kind (fun y hy e => by rw [ok.uniq y hy, e]) (thn (hi.run pins s σ H _ I h) fun xv s1 hx => thn hx fun itv s2 h2 => ?_)
  obtain ⟨it, fp, tn, J, H2, e, I2, T, st2, f2, q⟩ := h2
  subst e
  refine wpAny_newObj_type (newEnv_comp ?_)
  generalize hD : s2.heap.objs.size = D
  have hDn : H2 D = none := I2.hok.fresh (Nat.le_of_eq hD)
  have lt2 : ∀ b ∈ fp, b < s2.heap.objs.size := fun b hb => by
    obtain ⟨o, e, _⟩ := T.obj _ _ st2 b hb
    exact Heap.lt_size e
  have hobj : ObjOk X.prog X.w (upd H2 D (o0 D)) (s2.heap.push { cls := .type "dict", data := .dict #[] }) D (o0 D) := by
    rw [← hD]
    exact ho _ _ I2.big
  have I3 : Inv X pins σ (upd H2 D (o0 D)) { s2 with heap := s2.heap.push { cls := .type "dict", data := .dict #[] } } := I2.laid (t' := s2.toks) (fun b o e => Heap.get?_push_of_some _ e) (Nat.le_of_eq hD) hobj
  have f3 : ∀ b ∈ fp, FpOk X pins (upd H2 D (o0 D)) b ∧ b < ({ s2 with heap := s2.heap.push { cls := .type "dict", data := .dict #[] } } : Shared).heap.objs.size := fun b hb => by
    have hlt := lt2 b hb
    refine ⟨⟨?_, (f2 b hb).2⟩, ?_⟩
    · rw [upd_ne (by rw [← hD]; exact Nat.ne_of_lt hlt)]
      exact (f2 b hb).1
    · show b < (s2.heap.push _).objs.size
      rw [Heap.size_push]
      exact Nat.lt_succ_of_lt hlt
  have I4 := block_start I3 ok hN f3
  have st3 : tn 0 (s2.heap.push { cls := .type "dict", data := .dict #[] }) := T.keep _ _ _ st2 fun b _ o e => Heap.get?_push_of_some _ e
  have st4 : tn 0 (pushCells ((s2.heap.push { cls := .type "dict", data := .dict #[] }).push { cls := .type "dict", data := .dict #[] }) scope.names) := T.keep _ _ _ st3 fun b _ o e => pushCells_keeps _ _ _ _ (Heap.get?_push_of_some _ e)
  have loop := body it D fp tn J H2 _ { s2 with heap := pushCells ((s2.heap.push { cls := .type "dict", data := .dict #[] }).push { cls := .type "dict", data := .dict #[] }) scope.names } _ q hDn T st4 ⟨I3, f3, ⟨_, rfl⟩, I4⟩
  exact codeAny_compStart_dict loop (T.self X.A 0 _ _ _ st4 loop)
end
end Sh
set_option Elab.async false
set_option linter.all false
set_option maxRecDepth 100000
set_option maxHeartbeats 2000000
set_option autoImplicit false
/-! ShWt: dicts whose keys are tuples (nested or not): made by a comprehension, their len. -/
namespace Sh
open PySem PySem.Spec PyProof.Rows L2
section
variable {P : Program} {w : World} {K : PySem.W.Frag} {G H : Hp} {h : Heap}
mutual
/-- a key as data is a key -/
theorem nested_is (ok : HOk P w H h) (kin : K.In h) (le : Le G H) : ∀ (k : NestedKey) (v : V) (u : Value), RelV v u → Rp K G v (keyD k) → NestedIs h k u
  | .none, v, u, rv, r => by
    obtain rfl := r.non_inv
    obtain rfl : u = .none := rv
    exact .none
  | .num i, v, u, rv, r => by
    obtain rfl := r.int_inv
    obtain ⟨t, rfl⟩ : ∃ t, u = .int i t := rv
    exact .int i t
  | .text x, v, u, rv, r => by
    obtain rfl := r.str_inv
    obtain ⟨t, rfl⟩ : ∃ t, u = .str x t := rv
    exact .text x t
  | .tup ks, v, u, rv, r => by
    obtain ⟨a, vs, rfl, tk, rs⟩ := Rp.tup_inv (ds := keyDs ks) r
    obtain rfl : u = .ref a := rv
    rcases tk with ⟨o, e, _, _⟩ | ⟨o, its, n, e, hc, _, hd, _, rvs⟩
    · obtain ⟨e1, _, its, rvs, o2, e2, hc, n, hd⟩ := ok a _ (le a _ e)
      exact .tup e2 hc hd (by simpa using nested_all ok kin le ks vs its rvs rs)
    · exact .tup (kin a o e) hc hd (nested_all ok kin le ks vs _ rvs rs)
theorem nested_all (ok : HOk P w H h) (kin : K.In h) (le : Le G H) : ∀ (ks : List NestedKey) (vs : List V) (us : List Value), Vals vs us → Rps K G vs (keyDs ks) → NestedAll h ks us
  | [], vs, us, rv, r => by
    obtain rfl := Rps.inv0 (show Rps K G vs [] from r)
    cases rv
    exact .nil
  | k :: ks, vs, us, rv, r => by
    obtain ⟨v, vs', rfl, r1, r2⟩ := Rps.inv (show Rps K G vs (keyD k :: keyDs ks) from r)
    cases rv with
    | cons a b => exact .cons (nested_is ok kin le k v _ a r1) (nested_all ok kin le ks vs' _ b r2)
end
/-- what is true of the dict's object -/
def shN (P : Program) (w : World) (a : Addr) (xs : List (NestedKey × Addr × Value)) : Heap → Prop := fun h =>
  (∃ o es ep, h.get? a = some o ∧ o.ExactDict ∧ o.data = .dict es ep ∧ es.toList = xs.map (entryOfKey (nestedKind P w)) ∧ (xs.map (·.1)).Nodup) ∧ (∀ x ∈ xs, x.1.depth ≤ 8) ∧ xs.length ≤ sizeLine ∧ (a == sysModules) = false
theorem shN_ok {a : Addr} {xs : List (NestedKey × Addr × Value)} (e : shN P w a xs h) : ObjOk P w H h a (.ext (shN P w a xs)) :=
  ⟨e, let ⟨⟨o, _, _, q, _⟩, _⟩ := e; ⟨o, q⟩, fun h1 h2 ⟨⟨o, es, ep, q, r⟩, r2⟩ k => ⟨⟨o, es, ep, k o q, r⟩, r2⟩⟩
theorem shN_ne {a : Addr} {xs : List (NestedKey × Addr × Value)} (hs : ∃ h, shN P w a xs h) (c : Addr) (q : Str) : some (HO.ext (shN P w a xs)) ≠ some (LamX.CodeO c q) := fun e => by
  obtain ⟨h, hs⟩ := hs
  have e := Option.some.inj e
  have e : shN P w a xs = fun h => ∃ oc vs t, h.get? c = some oc ∧ oc.data = .fields vs ∧ vs[1]? = some (.str q t) := HO.ext.inj e
  by_cases hc : c = a
  · subst hc
    have z := hs
    rw [e] at z
    obtain ⟨oc, vs, t, z1, z2, _⟩ := z
    obtain ⟨⟨o, es, ep, y1, _, y2, _⟩, _⟩ := hs
    rw [y1] at z1
    cases z1
    rw [y2] at z2
    cases z2
  · obtain ⟨⟨o, es, ep, y1, y2⟩, y3⟩ := hs
    have z : shN P w a xs (PySem.W.hideAll h [c]) := ⟨⟨o, es, ep, PySem.W.hideAll_get _ y1 (by simpa using Ne.symm hc), y2⟩, y3⟩
    rw [e] at z
    obtain ⟨oc, vs, t, z1, _⟩ := z
    rw [PySem.W.hideAll_none _ (by simp)] at z1
    cases z1
end
section
variable {F : CF} {X : Cx} {pins : List (Addr × Obj)} {σ : L2.St} {G H : Hp} {W : OW} {s : Shared} {a : Addr} {xs : List (NestedKey × Addr × Value)}
theorem key_is {b : Addr} {k : NestedKey} (hX : Sat F X) (I : Inv X pins σ H s) (hk : Hk F.K F.T G W H) (r : Rp F.K G (.ref b) (keyD k)) (hd : k.depth ≤ 8) : (nestedKind X.prog X.w).is s.heap k b :=
  ⟨nested_is I.hok (hX.K ▸ I.kIn) hk.sub k (.ref b) _ rfl r, hd⟩
theorem dN_at (hX : Sat F X) (I : Inv X pins σ H s) (hk : Hk F.K F.T G W H) (hw : (a, AO.dN (shN X.prog X.w a xs) xs) ∈ W) : H a = some (.ext (shN X.prog X.w a xs)) ∧ s.heap.DictOfH (nestedKind X.prog X.w) a xs ∧ (∀ x ∈ xs, x.1.depth ≤ 8) ∧ xs.length ≤ sizeLine ∧ (a == sysModules) = false := by
  obtain ⟨_, o, e, r⟩ := hk.own _ hw
  obtain ⟨rfl, hr⟩ := r.dN_inv
  obtain ⟨⟨⟨o, es, ep, h1, h2, h3, h4, h5⟩, h6, h7, h8⟩, _⟩ := I.hok a _ e
  exact ⟨e, ⟨o, es, ep, h1, h2, h3, h4, fun x hx => key_is hX I hk (hr x hx) (h6 x hx), h5⟩, h6, h7, h8⟩
/-- a[k] = v -/
theorem dN_set {Q : Unit → Shared → Prop} {b : Addr} {k : NestedKey} {u : Value} {m : Shared → (Unit → Shared → Prop) → Prop} (hX : Sat F X) (I : Inv X pins σ H s) (hk : Hk F.K F.T G W H) (hw : (a, AO.dN (shN X.prog X.w a xs) xs) ∈ W) (r : Rp F.K G (.ref b) (keyD k)) (hd : k.depth ≤ 8) (hz : xs.length < sizeLine)
    (hm : ∀ Q' : Unit → Shared → Prop, s.heap.DictOfH (nestedKind X.prog X.w) a xs → (nestedKind X.prog X.w).is s.heap k b → (∀ h', h'.DictOfH (nestedKind X.prog X.w) a (storedH xs k b u) → Heap.SameBut a s.heap h' → Q' () { s with heap := h', toks := s.toks + (nestedKind X.prog X.w).draws k }) → m s Q')
    (q : ∀ s', Inv X pins σ (upd H a (.ext (shN X.prog X.w a (storedH xs k b u)))) s' → Q () s') : m s Q := by
  obtain ⟨e, dd, h6, h7, h8⟩ := dN_at hX I hk hw
  refine hm Q dd (key_is hX I hk r hd) fun h' dd' sb => q _ ?_
  obtain ⟨o, es, ep, g1, g2, g3, g4, _, g5⟩ := dd'
  refine d_write I (by rw [e]; exact trivial) sb ⟨o, g1⟩ (shN_ok ⟨⟨o, es, ep, g1, g2, g3, g4, g5⟩, fun x hx => ?_, ?_, h8⟩)
  · unfold storedH at hx
    split at hx
    · obtain ⟨y, hy, rfl⟩ := List.mem_map.mp hx
      unfold putAt
      split <;> exact h6 y hy
    · rcases List.mem_append.mp hx with hx | hx
      · exact h6 x hx
      · rw [List.mem_singleton.mp hx]
        exact hd
  · unfold storedH
    split
    · rw [List.length_map]; exact h7
    · rw [List.length_append]
      exact hz
theorem dN_put {v : Value} {b : Addr} {k : NestedKey} {i : Nat} (hs : ∃ h, shN X.prog X.w a xs h) (hk : Hk F.K F.T G W H) (hw : W[i]? = some (a, AO.dN (shN X.prog X.w a xs) xs)) (r : Rp F.K G (.ref b) (keyD k)) :
    Step F.K F.T G W H G (W.set i (a, .dN (shN X.prog X.w a (storedH xs k b v)) (storedH xs k b v))) (upd H a (.ext (shN X.prog X.w a (storedH xs k b v)))) := by
  obtain ⟨_, o, e, ro⟩ := hk.own _ (List.mem_of_getElem? hw)
  obtain ⟨rfl, hr⟩ := ro.dN_inv
  refine hk.write hw ⟨rfl, fun x hx => ?_⟩ fun c q z => by
    rw [e] at z
    exact shN_ne hs c q z
  unfold storedH at hx
  split at hx
  · obtain ⟨y, hy, rfl⟩ := List.mem_map.mp hx
    unfold putAt
    split <;> exact hr y hy
  · rcases List.mem_append.mp hx with hx | hx
    · exact hr x hx
    · rw [List.mem_singleton.mp hx]
      exact r
end
/-- a new dict with such keys -/
def ENN (F : CF) (e : Expr) (Γ : Ga) (W : OW) (ks : List NestedKey) (W' : OW) : Prop := ∀ (G H : Hp) (σ : L2.St) (Q : VK), Slots F.K G Γ σ → Hk F.K F.T G W H →
  (∀ p G' H' xs, H p = none → xs.map (·.1) = keysOf [] ks → Step F.K F.T G W H G' ((p, .dN (shN F.P F.w p xs) xs) :: W') H' → Q (.ref p) H') → cE F e σ H Q
theorem storedH_keys (xs : List (NestedKey × Addr × Value)) (k : NestedKey) (b : Addr) (v : Value) : (storedH xs k b v).map (·.1) = if k ∈ xs.map (·.1) then xs.map (·.1) else xs.map (·.1) ++ [k] := by
  have e : (atKey xs k).isSome = decide (k ∈ xs.map (·.1)) := by
    unfold atKey
    rw [Option.isSome_map, Bool.eq_iff_iff, List.find?_isSome, decide_eq_true_iff, List.mem_map]
    exact ⟨fun ⟨x, h1, h2⟩ => ⟨x, h1, of_decide_eq_true h2⟩, fun ⟨x, h1, h2⟩ => ⟨x, h1, decide_eq_true h2⟩⟩
  unfold storedH
  rw [e]
  by_cases h : k ∈ xs.map (·.1)
  · rw [if_pos h, if_pos (decide_eq_true h), List.map_map]
    refine List.map_congr_left fun x _ => ?_
    show (putAt k v x).1 = x.1
    unfold putAt
    split <;> rfl
  · rw [if_neg h, if_neg (by rw [decide_eq_false h]; exact Bool.false_ne_true), List.map_append]
    rfl
theorem keysOf_snoc {κ : Type} [DecidableEq κ] : ∀ (ks acc : List κ) (k : κ), keysOf acc (ks ++ [k]) = if k ∈ keysOf acc ks then keysOf acc ks else keysOf acc ks ++ [k]
  | [], acc, k => by
    show keysOf (if k ∈ acc then acc else acc ++ [k]) [] = _
    rfl
  | j :: ks, acc, k => by
    show keysOf (if j ∈ acc then acc else acc ++ [j]) (ks ++ [k]) = _
    rw [keysOf_snoc ks]
    rfl
section
variable {F : CF} {Γ : Ga} {W W1 : OW} {pos p : Pos} {tg iter kx vx a : Expr} {scope : Scope} {own : List (Str × Nat)} {ds : List D} {Wk : OW → Prop}
theorem en_dcN (kf : D → NestedKey) (hN : F.N.Nodup) (ok : blkC F.N F.sc scope own = true) (hi : EI F tg iter Γ W ds Wk W1) (wk : Wk W1)
    (hs : ∀ d ∈ ds, ∃ Γ1 ts y, EG (F.blk scope) (SatG (F.blk scope)) tg (wipeG Γ (own.map (·.2))) d Γ1 ts ∧ (∀ t ∈ ts, t ∈ own.map (·.2)) ∧ EV (F.blk scope) kx Γ1 W1 (.ok (keyD (kf d))) W1 ∧ EV (F.blk scope) vx Γ1 W1 (.ok y) W1)
    (hd : ∀ d ∈ ds, (kf d).depth ≤ 8 ∧ ∃ ks, kf d = .tup ks) (hz : ds.length < sizeLine) (hu : 9 ≤ F.k + 9 := by omega) (hf : ∀ env x, foldedSetIterable iter env x = pure x := by intro _ _; rfl) : ENN F (.DictComp kx vx [⟨tg, iter, [], 0⟩] scope pos) Γ W (ds.map kf) W1 := by
  refine fun G H σ Q sl hk k => ⟨fun σ H Q => Slots F.K G Γ σ ∧ Hk F.K F.T G W H ∧ (∀ p G' H' xs, H p = none → xs.map (·.1) = keysOf [] (ds.map kf) → Step F.K F.T G W H G' ((p, .dN (shN F.P F.w p xs) xs) :: W1) H' → Q (.ref p) H'), fun X hX => ⟨fun pins s σ H Q I ⟨sl, hk, k⟩ => ?_⟩, sl, hk, k⟩
  rw [arm_eval_DictComp]
  rw [← hX.P, ← hX.w] at k
  refine dc_begin (o0 := fun D => .ext (shN X.prog X.w D [])) (Qi := fun J H2 => ∃ G1, Step F.K F.T G W H G1 W1 H2 ∧ Wlk F J G1 Wk ds) (by rw [hX.N]; exact hN) I (cI_pi hX) (blkOk_by (by rw [hX.N, hX.sc]; exact ok)) (hf _) (hi G H σ _ sl hk fun J G1 H1 st wl => ⟨G1, st, wl⟩) (fun H' h hb => shN_ok ⟨⟨_, #[], 0, Heap.get?_push_size _ rfl, ⟨rfl, rfl, rfl⟩, rfl, rfl, List.nodup_nil⟩, fun x hx => (by cases hx), Nat.zero_le _, beq_eq_false_iff_ne.mpr (Ne.symm (Nat.ne_of_lt hb))⟩) fun it D fp tn J H2 s3 s4 ce ⟨G1, st2, wl⟩ hDn Tn ti4 B => ?_
  have hix : ∀ xs, (W1 ++ [(D, AO.dN (shN X.prog X.w D xs) xs)])[W1.length]? = some (D, .dN (shN X.prog X.w D xs) xs) := fun xs => by
    rw [List.getElem?_append_right (Nat.le_refl _), Nat.sub_self]
    rfl
  obtain ⟨cl, hce⟩ := B.eq
  have hYb : Sat (F.blk scope) (X.blk s3 (upd H2 D (.ext (shN X.prog X.w D []))) scope ce fp) := by
    rw [hce]
    exact hX.blk scope _ _ _ _ _
  have st3 : Step F.K F.T G W H G1 (W1 ++ [(D, .dN (shN X.prog X.w D []) [])]) (upd H2 D (.ext (shN X.prog X.w D []))) := (st2.trans (st2.hk.allocO (w := .dN (shN X.prog X.w D []) []) (o := .ext (shN X.prog X.w D [])) hDn ⟨rfl, fun x hx => (by cases hx)⟩)).perm (List.Perm.refl _) (List.perm_append_comm (l₁ := [(D, AO.dN (shN X.prog X.w D []) [])]) (l₂ := W1))
  have hD0 := st2.back hDn
  generalize hH3 : upd H2 D (.ext (shN X.prog X.w D [])) = H3 at B hYb st3 ⊢
  refine compLoop_anyD (fun n s' => ∃ i H', n = ds.length - i ∧ i ≤ ds.length ∧ Inv (X.blk s3 H3 scope ce fp) [] (wipe σ (own.map (·.2))) H' s' ∧ tn i s'.heap ∧ (∀ b ∈ fp, H' b = none) ∧ ∃ G' xs, Step F.K F.T G W H G' (W1 ++ [(D, .dN (shN X.prog X.w D xs) xs)]) H' ∧ Le G1 G' ∧ xs.map (·.1) = keysOf [] ((ds.take i).map kf) ∧ xs.length ≤ i) ?_ ds.length
    ⟨0, H3, rfl, Nat.zero_le _, B.i4, ti4, fun b hb => (B.fp3 b hb).1.1, G1, [], st3, Le.refl _, rfl, Nat.zero_le _⟩
  rintro n s5 ⟨i, H5, rfl, hil, I5, ti5, n5, G5, xs, st5, le5, hxs, hlen⟩
  have hkW : Hk F.K F.T G5 W1 H5 := st5.hk.less (List.sublist_append_left _ _)
  obtain ⟨w1, w2⟩ := wl G5 W1 H5 le5 hkW wk i
  by_cases hlt : i < ds.length
  · have hmem : ds[i] ∈ ds := List.getElem_mem hlt
    obtain ⟨go, w3⟩ := w1 ds[i] (List.getElem?_eq_getElem hlt)
    have ti := Tn.item (X.blk s3 H3 scope ce fp) rfl rfl rfl hX.calm i [] s5 _ H5 (fun _ _ => False) I5 (B.stat (f := fun _ _ => False) I5 n5) ti5 go
    refine thnF ti fun r s6 ⟨u, hr, h6⟩ => ?_
    subst hr
    refine thnF h6 fun _ s7 ⟨x, H7, I7, r7, y7, ti7, n7⟩ => ?_
    obtain ⟨s8, y8⟩ := w3 x H7 y7
    obtain ⟨Γ1, ts, yv, hg, hts, hkx, hvx⟩ := hs _ hmem
    have st8 := st5.trans (s8.more st5.hk)
    have I7' := I7.pinned (B.stat (f := fun _ _ => False) I7 n7) (Tn.obj _ _ ti7)
    have pg := (cG_pg (tg := tg) (S := SatG (F.blk scope)) ⟨hYb, by show X.N.Nodup; rw [hX.N]; exact hN⟩).run _ s7 _ H7 x u (fun σ4 H4 => H4 = H7 ∧ Slots F.K G5 Γ1 σ4 ∧ But ts (wipe σ (own.map (·.2))) σ4) I7' r7 (hg G5 H7 x (wipe σ (own.map (·.2))) _ ((sl.mono (st2.le.trans le5)).wipe _) s8.hk.sub y8 fun σ4 sl4 bt => ⟨rfl, sl4, bt⟩)
    refine thnF pg fun _ s9 ⟨σ9, H9, I9, e9, sl9, bt9⟩ => ?_
    subst e9
    refine thnF ((cTs_pts (F := F.blk scope) (ifs := []) hYb).run _ s9 σ9 H9 (fun b H' => b = true ∧ H' = H9) I9 ⟨tYes, fun X _ => pts_nil, rfl, rfl⟩) fun b s10 ⟨H10, I10, e10, e11⟩ => ?_
    subst e10 e11
    rw [if_pos rfl]
    refine thnF ((cE_pe (F := F.blk scope) (e := kx) hYb).run _ s10 σ9 H10 (fun v H' => ∃ G', Step F.K F.T G5 W1 H10 G' W1 H' ∧ Rp F.K G' v (keyD (kf ds[i]))) I10 (hkx G5 H10 σ9 _ sl9 s8.hk fun v G' H' st r => ⟨G', st, r⟩)) fun z s11 ⟨qv, H11, I11, rv11, G11, st11, rq⟩ => ?_
    have st11' := st8.trans (st11.more st8.hk)
    refine thnF ((cE_pe (F := F.blk scope) (e := vx) hYb).run _ s11 σ9 H11 (fun v H' => ∃ G', Step F.K F.T G11 W1 H11 G' W1 H') I11 (hvx G11 H11 σ9 _ (sl9.mono st11.le) st11.hk fun v G' H' st r => ⟨G', st⟩)) fun z2 s12 ⟨yv, H12, I12, rv12, G12, st12⟩ => ?_
    have st12' := st11'.trans (st12.more st11'.hk)
    obtain ⟨hdep, ks, hks⟩ := hd _ hmem
    have rq2 : Rp F.K G12 qv (keyD (kf ds[i])) := rq.mono st12.le
    obtain ⟨b, vs, rfl, _, _⟩ := Rp.tup_inv (ds := keyDs ks) (by have := rq; rw [hks] at this; exact this)
    obtain rfl : z = .ref b := rv11
    have hzs : xs.length < sizeLine := by omega
    refine dN_set (m := fun s Q' => wpAny (model X.prog X.w) X.A (dictSet D (.ref b) z2) Q' _ s) (xs := xs) (k := kf ds[i]) (W := W1 ++ [(D, .dN (shN X.prog X.w D xs) xs)]) hYb I12 st12'.hk (List.mem_of_getElem? (hix xs)) rq2 hdep hzs (fun Q' dd ki hQ => wpAny_dictSet_heap (by have := hX.un; show X.A.units + 8 < cLine; omega) ki dd hQ (by obtain ⟨_, _, _, z, _⟩ := dN_at hYb I12 st12'.hk (List.mem_of_getElem? (hix xs)); exact z)) fun s13 I13 => ?_
    have put := dN_put (X := X) (v := z2) (i := W1.length) (by obtain ⟨_, ⟨⟨o, es, ep, h1, h2, h3, h4, h5, h6⟩, g1, g2, g3⟩⟩ := dN_at hYb I12 st12'.hk (List.mem_of_getElem? (hix xs)); exact ⟨s12.heap, ⟨o, es, ep, h1, h2, h3, h4, h6⟩, g1, g2, g3⟩) st12'.hk (hix xs) rq2
    have eset : ∀ ys, (W1 ++ [(D, AO.dN (shN X.prog X.w D xs) xs)]).set W1.length (D, .dN (shN X.prog X.w D ys) ys) = W1 ++ [(D, .dN (shN X.prog X.w D ys) ys)] := fun ys => by
      rw [List.set_append_right _ _ (Nat.le_refl _), Nat.sub_self]
      rfl
    rw [eset] at put
    have pin' : ∀ c ∈ fp, ∀ o, s7.heap.get? c = some o → s13.heap.get? c = some o ∧ (upd H12 D (.ext (shN X.prog X.w D (storedH xs (kf ds[i]) b z2)))) c = none := fun c hc o e =>
      let z := I13.pin (c, o) (List.mem_append_right _ (List.mem_append_right _ (mem_pinsAt hc e)))
      ⟨z.1, z.2.1⟩
    have hw9 := wipe_but bt9 hts
    refine ⟨ds.length - (i + 1), by omega, i + 1, _, rfl, hlt, (I13.unpinned (pins := [])).weak (by rw [← hw9, wipe_length]) (fun j v e => (wipe_some (vs := own.map (·.2)) (by rw [hw9]; exact e)).1), Tn.keep _ _ _ ti7 fun c hc o e => (pin' c hc o e).1, fun c hc => ?_, G12, storedH xs (kf ds[i]) b z2, st12'.trans put, ((le5.trans st11.le).trans st12.le), ?_, ?_⟩
    · obtain ⟨o, e, _⟩ := Tn.obj _ _ ti7 c hc
      exact (pin' c hc o e).2
    · rw [storedH_keys, hxs, List.take_add_one, List.getElem?_eq_getElem hlt, Option.toList_some, List.map_append, List.map_singleton, keysOf_snoc]
    · unfold storedH
      split
      · rw [List.length_map]; omega
      · rw [List.length_append, List.length_singleton]; omega
  · have e : i = ds.length := by omega
    subst e
    have td := Tn.done (X.blk s3 H3 scope ce fp) rfl rfl rfl hX.calm ds.length [] s5 _ H5 (fun _ _ => False) I5 (B.stat (f := fun _ _ => False) I5 n5) ti5 (w2 (Nat.le_refl _))
    refine thnF td fun r s6 ⟨hr, I6⟩ => ?_
    subst hr
    have I7 : Inv X pins σ H5 s6 := B.i3.call' (ch := fp) I6.os I6.base I6.hok I6.bare fun b hb => ⟨(B.fp3 b hb).1.2.2.2.1, (B.fp3 b hb).1.2.1, (B.fp3 b hb).1.2.2.2.2.1, (B.fp3 b hb).1.2.2.2.2.2⟩
    have cL : ce.locals = s3.heap.objs.size := by rw [hce]; rfl
    have nC : H5 ce.locals = none := I6.free
    obtain ⟨m, hn, _⟩ := I6.loc
    have fC : FpOk X pins H5 ce.locals := B.i3.fpOk (by rw [cL]; exact Nat.le_refl _) nC
    refine ⟨m, hn, fun h'' sb => ?_⟩
    obtain ⟨f0, f1, f2, f3, f4, f5⟩ := fC
    rw [List.take_length] at hxs
    exact ⟨.ref D, H5, I7.turned (t' := s6.toks) (fun b o hb e => (sb.2 b hb).trans e) f0 f1 f3 f4 f5, rfl, k D G5 H5 xs hD0 hxs (st5.perm (List.Perm.refl _) List.perm_append_comm)⟩
def rLenN (F : CF) : List V → Hp → VK → Prop := fun xs H Q => ∃ (G : Hp) (W : OW) (a : Addr) (ys : List (NestedKey × Addr × Value)), xs = [.ref a] ∧ Hk F.K F.T G W H ∧ (a, AO.dN (shN F.P F.w a ys) ys) ∈ W ∧ Q (.int ((ys.length : Nat) : Int)) H
theorem cr_lenN {X : Cx} (hX : Sat F X) : CallR X (.builtin "len") (rLenN F) := by
  intro pins s σ H xs us Q I r ⟨G, W, a, ys, e, hk, hw, q⟩
  subst e
  obtain ⟨u, rfl, rx⟩ := vals1 r
  obtain rfl : u = .ref a := rx
  rw [← hX.P, ← hX.w] at hw
  obtain ⟨_, dd, _, z, hs⟩ := dN_at hX I hk hw
  refine call_len_dictH hs dd (by rw [sizeLine_eq] at z; omega) ?_
  exact ⟨.int ((ys.length : Nat) : Int), H, I.tok _, ⟨_, rfl⟩, q⟩
/-- len of such a new dict -/
theorem ev_lenNN {ks : List NestedKey} (hg : GlS F "len") (hm : F.mg "len" = none) (ha : ENN F a Γ W ks W1) (he : ∀ env, starEach [a] env = (false, eval a env) :: starEach [] env := by intro _; rfl) : EV F (.Call (.Name "len" p) [a] [] pos) Γ W (.ok (.int (keysOf [] ks).length)) W1 :=
  fun G H σ Q sl hk k => ⟨tCB (rLenN F) (tCons (cE F a) tNil), fun X hX => pe_callB (cr_lenN hX) (hX.gl hg) (by rw [hX.mg]; exact hm) (by decide +kernel) (pa_cons (cE_pe hX) pa_nil (he _)) (he := he _), ha G H σ _ sl hk fun q G1 H1 xs hq hxs s1 => by
    refine ⟨G1, _, q, xs, rfl, s1.hk, List.mem_cons_self, ?_⟩
    have := k (.int ((xs.length : Nat) : Int)) G1 H1 (s1.drop (List.sublist_cons_self _ _))
    rw [← hxs, List.length_map] at this
    exact this (.int _)⟩
end
end Sh
set_option Elab.async false
set_option linter.all false
set_option maxRecDepth 100000
set_option maxHeartbeats 2000000
set_option autoImplicit false
/-! ShXt: a dict comprehension whose first key raises. -/
namespace Sh
open PySem PySem.Spec PyProof.Rows L2
section
variable {F : CF} {X : Cx} {pins : List (Addr × Obj)} {σ : L2.St} {H : Hp} {s s' : Shared}
/-- an exception leaves a comprehension's block -/
theorem comp_out {l : List (Str × Addr)} {ce : Env} {m : Str → Option Value} {u : Value} (hX : Sat F X) (hcl : F.cl = some l) (I : Inv X pins σ H s) (fC : FpOk X pins H ce.locals) (hn : s.heap.Ns ce.locals m) (hcf : ce.frame = X.env.frame) (c : L2.CX X.prog X.w X.stack H s F.E u s') :
    notedBy (model X.prog X.w) X.A ce (CompFails (model X.prog X.w) X.A X.xe ce) u s' := by
  obtain ⟨hs, hf, tk⟩ := hX.held l hcl
  obtain ⟨a, B, H', cls, d, rfl, fl, hok, ub, na, os, ag, hE⟩ := c
  generalize hCe : ce.locals = C at fC hn
  have nfr : C ∉ frs X.stack := fun hm => by
    rcases List.mem_cons.mp (I.stkSub C hm) with z | z
    · exact fC.2.1 z
    · exact fC.2.2.1 z
  obtain ⟨oC, esC, epC, eC, dC, rC⟩ := hn
  have BC : B.get? C = some oC := ub.keep C oC eC fC.1 nfr
  have sC : s'.heap.get? C = some oC := fl.1 C oC BC
  have hn' : s'.heap.Ns C m := ⟨oC, esC, epC, sC, dC, rC⟩
  have B2C : (PySem.W.hideAll B [C]).get? C = none := PySem.W.hideAll_none _ (List.mem_singleton.mpr rfl)
  have B2get : ∀ b o, B.get? b = some o → b ≠ C → (PySem.W.hideAll B [C]).get? b = some o := fun b o e n => PySem.W.hideAll_get _ e (by simpa using n)
  have B2of : ∀ b o, (PySem.W.hideAll B [C]).get? b = some o → B.get? b = some o ∧ b ≠ C := fun b o e => ⟨PySem.W.of_hideAll _ e, fun z => by
    rw [z, B2C] at e
    cases e⟩
  have none2 : ∀ b, B.get? b = none → (PySem.W.hideAll B [C]).get? b = none := fun b e => by
    cases q : (PySem.W.hideAll B [C]).get? b with
    | none => rfl
    | some o =>
      rw [(B2of b o q).1] at e
      cases e
  have HC : H' C = none := ub.free C oC eC fC.1
  generalize hB2 : PySem.W.hideAll B [C] = B2 at B2C B2get B2of none2
  have fl2 : HandSPX.FlyingZ B2 X.stack a (Zc cls d) s'.heap := by
    obtain ⟨f1, f2, f3, oe, vs, T, oT, ts, e1, e2, e3, e4, e5, e6, e7, e8, e9⟩ := fl
    exact ⟨fun b o e => f1 b o (B2of b o e).1, none2 a f2, funFrames_none f3 fun b hb => none2 b (f3.mem hb).1, oe, vs, T, oT, ts, e1, e2, e3, e4, none2 T e5, e6, e7, e8, e9⟩
  have hok2 : HOk X.prog X.w H' B2 := fun b o q => (hok b o q).stay (fun x v hx r => B2get x v r fun z => by
    rcases hx with hx | hx
    · rw [← z, hx, q] at HC
      cases HC
    · rw [← z, hx] at HC
      cases HC) (fun _ r => r) fun _ _ r => r
  obtain ⟨G, g1, g2⟩ := restrict s'.heap fun b => (B2.get? b).isSome || decide (b ∈ frs X.stack)
  have st : B2.StaysIn s'.heap := fl2.1
  have gB : ∀ b o, B2.get? b = some o → G.get? b = some o := fun b o e => by
    rw [g1 b (by simp [e])]
    exact st b o e
  have gF : ∀ b, b ∈ frs X.stack → G.get? b = s'.heap.get? b := fun b hb => g1 b (by simp [hb])
  have og : ∀ b o, G.get? b = some o → s'.heap.get? b = some o ∧ ((B2.get? b).isSome = true ∨ b ∈ frs X.stack) := fun b o e => by
    cases q : ((B2.get? b).isSome || decide (b ∈ frs X.stack)) with
    | false => rw [g2 b q] at e; cases e
    | true =>
      rw [g1 b q] at e
      exact ⟨e, by simpa [Bool.or_eq_true] using q⟩
  have J : Inv X pins σ H' { s with heap := G, gens := s'.gens, drawn := s'.drawn, toks := s'.toks } := by
    refine I.call (ch := [C]) ⟨fun b o e n hb hx => gB b o (B2get b o (ub.keep b o e n hb) (by simpa using hx)), fun b o e n hb hx => ?_, fun b o e n _ => ub.free b o e n, fun b o e hx => ?_, ub.tups, ub.frzs, ub.tbls⟩ (hok2.kept gB) ag fun b hb => ?_
    · obtain ⟨sl, q⟩ := ub.slot b o e hb
      exact ⟨sl, by rw [gF b hb]; exact q⟩
    · by_cases hb : b ∈ frs X.stack
      · obtain ⟨sl, q⟩ := ub.slot b o e hb
        exact ⟨_, by rw [gF b hb]; exact q⟩
      · obtain ⟨o', q⟩ := ub.there b o e hb
        exact ⟨o', gB b o' (B2get b o' q (by simpa using hx))⟩
    · rw [List.mem_singleton] at hb
      subst hb
      exact ⟨fC.2.2.2.1, fC.2.1, fC.2.2.2.2.1, fC.2.2.2.2.2⟩
  have nb : ∀ b o, G.get? b = some o → b ∉ frs X.stack → B2.get? b = some o := fun b o e hb => by
    obtain ⟨e', h⟩ := og b o e
    rcases h with h | h
    · obtain ⟨o', q⟩ := Option.isSome_iff_exists.mp h
      have z := st b o' q
      rw [e'] at z; cases z
      exact q
    · exact absurd h hb
  have GC : ∀ b o, G.get? b = some o → b ≠ C := fun b o e z => by
    obtain ⟨_, h⟩ := og b o e
    rw [z] at h
    rcases h with h | h
    · rw [B2C] at h
      cases h
    · exact nfr h
  have hfr : X.A.frames = some (X.env :: X.outer) := by rw [I.ok.frames, hs]
  rw [hs] at fl2
  show wpAny _ _ (noteFrame (.ref a) ce) _ _ s'
  rw [noteFrame_env _ hcf]
  refine HandSPX.looks_onZ Zc.steady hfr hf fl2 fun h1 held up1 => ?_
  have hn1 : h1.Ns C m := hn'.upToSlots up1
  refine ⟨m, by rw [hCe]; exact hn1, fun h2 m2 hn2 sb => ?_⟩
  rw [hCe] at hn2 sb
  obtain ⟨b1, b0, f1, oe, vs, T, oT, ts, e1, e2, e3, e4, e5, e6, e7, e8, e9⟩ := held
  obtain ⟨oC1, es1, ep1, k1, k2, _⟩ := hn1
  have neA : a ≠ C := fun z => by
    rw [z, k1] at e1
    cases e1
    rw [k2] at e3
    cases e3
  have neT : T ≠ C := fun z => by
    rw [z, k1] at e7
    cases e7
    rw [k2] at e8
    cases e8
  have held2 : HandSPX.HeldZ B2 (X.env :: X.outer) a (Zc cls d) X.env.locals h2 := ⟨fun b o hb => (sb.2 b fun q => by rw [q, B2C] at hb; cases hb).trans (b1 b o hb), b0, Heap.FunFrames.sameBut sb hn2 f1, oe, vs, T, oT, ts, (sb.2 a neA).trans e1, e2, e3, e4, e5, e6, (sb.2 T neT).trans e7, e8, e9⟩
  unfold PySem.passOn
  refine wpAny_bind (wpAny_field ((sb.2 a neA).trans e1) e3 e4 ?_)
  rw [if_neg (show ¬ ((Value.ref T == Value.none) = true) from by simp), hcf, hf]
  refine wpAny_bind (HandSPX.setFlight_onZ held2 fun h3 held3 up3 => wpAny_throw (tk _ _ ⟨a, B2, _, pins, σ, H', cls, d, rfl, J, nb, fun b o e hnf => ?_, .inr (.inr ?_), na, os, ag, hE⟩))
  · obtain ⟨sl, q1⟩ := up1 b o (og b o e).1 hnf
    obtain ⟨sl2, q2⟩ := up3 b _ ((sb.2 b (GC b o e)).trans q1) hnf
    exact ⟨sl2, q2⟩
  · rw [hs]
    exact held3
end
/-- within a comprehension's block, where something may raise -/
abbrev CF.blkE (F : CF) (scope : Scope) (E : XK) : CF := { F with sc := relS scope F.sc, E := E, cl := none }
section
variable {F : CF} {Γ : Ga} {W W1 We : OW} {pos p : Pos} {tg iter kx vx : Expr} {scope : Scope} {own : List (Str × Nat)} {d0 : D} {ds : List D} {Wk : OW → Prop} {c : Addr}
/-- {k: v for ..}, the first key raises -/
theorem ev_dcE {l : List (Str × Addr)} (hcl : F.cl = some l) (hN : F.N.Nodup) (ok : blkC F.N F.sc scope own = true) (hi : EI F tg iter Γ W (d0 :: ds) Wk W1) (wk : Wk W1)
    (hs : ∀ E, ∃ Γ1 ts, EG (F.blkE scope E) (SatG (F.blkE scope E)) tg (wipeG Γ (own.map (·.2))) d0 Γ1 ts ∧ EV (F.blkE scope E) kx Γ1 W1 (.er c) We) (hf : ∀ env x, foldedSetIterable iter env x = pure x := by intro _ _; rfl) : EV F (.DictComp kx vx [⟨tg, iter, [], 0⟩] scope pos) Γ W (.er c) We := by
  refine fun G H σ Q sl hk k => ⟨fun σ H Q => Slots F.K G Γ σ ∧ Hk F.K F.T G W H ∧ (∀ G' H', Step F.K F.T G W H G' We H' → F.E (.ref c) none H'), fun X hX => ⟨fun pins s σ H Q I ⟨sl, hk, k⟩ => ?_⟩, sl, hk, k⟩
  rw [arm_eval_DictComp]
  refine dc_begin (o0 := fun D => .ext (shN X.prog X.w D [])) (Qi := fun J H2 => ∃ G1, Step F.K F.T G W H G1 W1 H2 ∧ Wlk F J G1 Wk (d0 :: ds)) (by rw [hX.N]; exact hN) I (cI_pi hX) (blkOk_by (by rw [hX.N, hX.sc]; exact ok)) (hf _) (hi G H σ _ sl hk fun J G1 H1 st wl => ⟨G1, st, wl⟩) (fun H' h hb => shN_ok ⟨⟨_, #[], 0, Heap.get?_push_size _ rfl, ⟨rfl, rfl, rfl⟩, rfl, rfl, List.nodup_nil⟩, fun x hx => (by cases hx), Nat.zero_le _, beq_eq_false_iff_ne.mpr (Ne.symm (Nat.ne_of_lt hb))⟩) fun it D fp tn J H2 s3 s4 ce ⟨G1, st2, wl⟩ hDn Tn ti4 B => ?_
  obtain ⟨cl, hce⟩ := B.eq
  have st3 := st2.trans (st2.hk.allocO (w := .dN (shN X.prog X.w D []) []) (o := .ext (shN X.prog X.w D [])) hDn ⟨rfl, fun x hx => (by cases hx)⟩)
  generalize hH3 : upd H2 D (.ext (shN X.prog X.w D [])) = H3 at B st3
  have st3 := st3.drop (List.sublist_cons_self _ _)
  have hYb : Sat (F.blkE scope F.E) { X.blk s3 H3 scope ce fp with xe := fun e s' => ∃ pins' σ' H' s1, Inv (X.blk s3 H3 scope ce fp) pins' σ' H' s1 ∧ L2.CX X.prog X.w X.stack H' s1 F.E e s' } := by
    subst hce
    exact ⟨hX.P, hX.w, hX.K, hX.mg, hX.base, hX.N, by
      show relS scope X.env.scope = relS scope F.sc
      rw [hX.sc], hX.cd, hX.room, hX.calm, fun pins' σ' H' s1 e s' I c => ⟨pins', σ', H', s1, inv_xe I, c⟩, hX.qual, (fun _ e => nomatch e), fun _ e => nomatch e⟩
  -- out of the block
  have cL : ce.locals = s3.heap.objs.size := by rw [hce]; rfl
  have cF : ce.frame = X.env.frame := by rw [hce]; rfl
  have out : ∀ e s', (∃ pins' σ' H' s1, Inv (X.blk s3 H3 scope ce fp) pins' σ' H' s1 ∧ L2.CX X.prog X.w X.stack H' s1 F.E e s') → notedBy (model X.prog X.w) X.A ce (fun e s' => compEnds (model X.prog X.w) X.A X.xe none (EP X pins σ Q) (.ref D) ce (.error e) s') e s' := fun e s' ⟨pins', σ', H', s1, I', cx⟩ => by
    have Ib : Inv X pins σ H' s1 := B.i3.call' (ch := fp) I'.os I'.base I'.hok I'.bare fun b hb => ⟨(B.fp3 b hb).1.2.2.2.1, (B.fp3 b hb).1.2.1, (B.fp3 b hb).1.2.2.2.2.1, (B.fp3 b hb).1.2.2.2.2.2⟩
    obtain ⟨m, hn, _⟩ := I'.loc
    exact comp_out hX hcl Ib (B.i3.fpOk (by rw [cL]; exact Nat.le_refl _) I'.free) hn cF cx
  refine compLoop_anyD (fun n s' => n = 0 ∧ s' = s4) ?_ 0 ⟨rfl, rfl⟩
  rintro n s5 ⟨rfl, rfl⟩
  obtain ⟨w1, _⟩ := wl G1 W1 H3 (Le.refl _) st3.hk wk 0
  obtain ⟨go, w3⟩ := w1 d0 rfl
  have fpk : ∀ b ∈ fp, FpOk (X.blk s3 H3 scope ce fp) [] H3 b := B.stat (f := fun _ _ => False) B.i4 fun b hb => (B.fp3 b hb).1.1
  have ti := Tn.item (X.blk s3 H3 scope ce fp) rfl rfl rfl hX.calm 0 [] s5 _ H3 (fun _ _ => False) B.i4 fpk ti4 go
  refine thnF ti fun r s6 ⟨u, hr, h6⟩ => ?_
  subst hr
  refine thnF h6 fun _ s7 ⟨x, H7, I7, r7, y7, ti7, n7⟩ => ?_
  obtain ⟨s8, y8⟩ := w3 x H7 y7
  obtain ⟨Γ1, ts, hg, hkx⟩ := hs F.E
  have pg := (cG_pg (tg := tg) (S := SatG (F.blkE scope F.E)) ⟨hYb, by show X.N.Nodup; rw [hX.N]; exact hN⟩).run _ s7 _ H7 x u (fun σ4 H4 => H4 = H7 ∧ Slots F.K G1 Γ1 σ4) (inv_xe I7) r7 (hg G1 H7 x (wipe σ (own.map (·.2))) _ ((sl.mono st2.le).wipe _) s8.hk.sub y8 fun σ4 sl4 bt => ⟨rfl, sl4⟩)
  refine wpAny_mono pg (fun _ s9 ⟨σ9, H9, I9, e9, sl9⟩ => ?_) fun e s' h => out e s' h
  subst e9
  refine wpAny_mono ((cTs_pts (F := F.blkE scope F.E) (ifs := []) hYb).run _ s9 σ9 H9 (fun b H' => b = true ∧ H' = H9) I9 ⟨tYes, fun X _ => pts_nil, rfl, rfl⟩) (fun b s10 ⟨H10, I10, e10, e11⟩ => ?_) fun e s' h => out e s' h
  subst e10 e11
  rw [if_pos rfl]
  exact wpAny_mono ((cE_pe (F := F.blkE scope F.E) (e := kx) hYb).run _ s10 σ9 H10 (fun v H' => False) I10 (hkx G1 H10 σ9 _ sl9 s8.hk fun G' H' st => k G' H' ((st3.trans s8).trans st))) (fun _ _ ⟨_, _, _, _, z⟩ => z.elim) fun e s' h => out e s' h
theorem ev_lenE {a : Expr} (hg : GlS F "len") (hm : F.mg "len" = none) (ha : EV F a Γ W (.er c) W1) (he : ∀ env, starEach [a] env = (false, eval a env) :: starEach [] env := by intro _; rfl) : EV F (.Call (.Name "len" p) [a] [] pos) Γ W (.er c) W1 :=
  fun G H σ Q sl hk k => ⟨tCB (fun xs H Q => ∃ a kvs, xs = [V.ref a] ∧ H a = some (.dK kvs) ∧ Q (.int kvs.length) H) (tCons (cE F a) tNil), fun X hX => pe_callB call_lenD (hX.gl hg) (by rw [hX.mg]; exact hm) (by decide +kernel) (pa_cons (cE_pe hX) pa_nil (he _)) (he := he _), ha G H σ _ sl hk k⟩
theorem ew_orE {a b : Expr} {rest : List Expr} (h : ET F a Γ W (.er c) W1) : EW F (.BoolOp .Or (a :: b :: rest) pos) Γ W (.er c) W1 :=
  fun G H σ Q sl hk k => ⟨tOr (cT F a) (cW F (.BoolOp .Or (b :: rest) pos)), fun X hX => pw_or (cT_pt hX) (cW_pw hX), h G H σ _ sl hk k⟩
end
end Sh
set_option Elab.async false
set_option linter.all false
set_option maxRecDepth 100000
set_option maxHeartbeats 2000000
set_option autoImplicit false
/-! ShYt: a list unpacked. -/
namespace Sh
open PySem PySem.Spec PyProof.Rows L2
theorem eg_lst {F : CF} {Γ : Ga} {pos : Pos} {S : Cx → Prop} (hS : ∀ X, S X → SatG F X) {ds : List D} {es : List Expr} {n : Nat} {Γ1 : Ga} {ts : List Nat} (h : EGs F S es Γ ds Γ1 ts) (hl : es.length = ds.length) (hn : ∀ env, (assignEach es env).length = es.length := by intro _; rfl) (hst : ∀ env, (assignEach es env).findIdx? (·.1) = none := by intro _; rfl) : EG F S (.Tuple es n pos) Γ (.lst ds) Γ1 ts :=
  fun G H v σ Q sl le y k => ⟨gLst F.K es.length (cGs S es), fun X hX => (hS X hX).K ▸ pg_lst (hS X hX).calm (cGs_pgs hX) (hn _) (hst _), by
    rcases y with r | ⟨t, vs, ds', rfl, e1, e2, r⟩
    · obtain ⟨a, vs, rfl, e1, r1⟩ := r.lst_inv
      exact ⟨a, vs, rfl, SqL.of (le _ _ e1), by rw [r1.1, hl], h G H vs σ Q sl le r1 k⟩
    · cases e2⟩
end Sh
set_option Elab.async false
set_option linter.all false
set_option maxRecDepth 100000
set_option maxHeartbeats 2000000
set_option autoImplicit false
/-! ShZt: list(text); text * int with any count. -/
namespace Sh
open PySem PySem.Spec PyProof.Rows L2
theorem op_mul_strA {X : Cx} : OpR X (binaryOp .Mult) (fun x y H Q => ∃ (i : Str) (n : Nat), x = .str i ∧ y = .int (n : Nat) ∧ n ≤ 1000000 ∧ 0 < i.length ∧ i.length * n ≤ 1000000 ∧ (repS i n).length ≤ 1000000 ∧ Q (.str (repS i n)) H) := by
  intro pins s σ H x y v u Q I rx ry h
  obtain ⟨i, n, rfl, rfl, h6, h0, hz, hl, q⟩ := h
  by_cases h2 : 2 ≤ n
  · exact op_mul_str pins s σ H _ _ v u Q I rx ry ⟨i, n, rfl, rfl, h2, h6, h0, hz, hl, q⟩
  obtain ⟨t, rfl⟩ := rx
  obtain ⟨t', rfl⟩ := ry
  by_cases hn : n = 0
  · subst hn
    refine PySem.P.mul_str_none (by decide) (by decide) ⟨.str (repS i 0), H, I.tok _, ⟨_, rfl⟩, q⟩
  · have : n = 1 := by omega
    subst this
    have e : repS i 1 = i := by
      unfold repS
      cases i
      simp
    rw [e] at q
    refine PySem.P.mul_str (by decide) (fun _ h => ?_) (fun _ h => ?_) ?_
    · cases h
    · cases h
    · rw [if_neg (by decide), if_pos (show (((1 : Nat) : Int) == 1 || i.length == 0) = true from rfl)]
      exact ⟨.str i, H, I, ⟨_, rfl⟩, q⟩
theorem ev_repA {F : CF} {Γ : Ga} {W W1 W2 : OW} {pos : Pos} {a b : Expr} {z : Str} {n : Nat} (ha : EV F a Γ W (.ok (.str z)) W1) (hb : EV F b Γ W1 (.ok (.int (n : Nat))) W2) (h6 : n ≤ 1000000) (h0 : 0 < z.length) (hz : z.length * n ≤ 1000000) (hl : (repS z n).length ≤ 1000000) : EV F (.BinOp a .Mult b pos) Γ W (.ok (.str (repS z n))) W2 :=
  ev_op (fun X _ => op_mul_strA) ha hb fun G H x y Q hk rx ry k => ⟨z, n, rx.str_inv, ry.int_inv, h6, h0, hz, hl, k _ G H (.refl hk) (.str _)⟩
theorem call_list_txt {X : Cx} (hc : X.calm = true) : CallR X (.type "list") (fun xs H Q => ∃ z : Str, xs = [.str z] ∧ z.cps.size ≤ sizeLine ∧ ∀ l, H l = none → Q (.ref l) (upd H l (.lst (z.cps.toList.map fun c => V.str ⟨#[c]⟩)))) := by
  intro pins s σ H xs us Q I r h
  obtain ⟨z, rfl, hz, q⟩ := h
  obtain ⟨u, rfl, rx⟩ := vals1 r
  obtain ⟨t, rfl⟩ := rx
  refine call_list_str (I.ok.hd hc) z t (fun h' tk acc' c' kp e it => ?_) hz
  have rv : Vals (z.cps.toList.map fun c => V.str ⟨#[c]⟩) acc'.toList := by
    refine vals_of_idx _ _ (by rw [List.length_map, Array.length_toList, Array.length_toList, it.1]) fun j u hj => ?_
    rw [Array.getElem?_toList] at hj
    obtain ⟨c, tk, h1, rfl⟩ := it.2 j u hj
    exact ⟨.str ⟨#[c]⟩, by rw [List.getElem?_map, Array.getElem?_toList, h1]; rfl, tk, rfl⟩
  exact ⟨.ref s.heap.objs.size, _, I.laid (t' := tk) kp (Nat.le_refl _) (show ObjOk X.prog X.w _ h' _ (.lst _) from ⟨by rw [List.length_map, Array.length_toList]; exact hz, acc'.toList, c', rv, by simpa using e⟩), rfl, q _ (I.hok.fresh (Nat.le_refl _))⟩
/-- list(text) -/
theorem en_listT {F : CF} {Γ : Ga} {W W1 : OW} {p pos : Pos} {a : Expr} {z : Str} (hg : GlS F "list") (hm : F.mg "list" = none) (ha : EV F a Γ W (.ok (.str z)) W1) (hz : z.cps.size ≤ sizeLine) (he : ∀ env, starEach [a] env = (false, eval a env) :: starEach [] env := by intro _; rfl) : EN F (.Call (.Name "list" p) [a] [] pos) Γ W (z.cps.toList.map fun c => D.str ⟨#[c]⟩) W1 :=
  en_callTy (r := fun xs H Q => ∃ z : Str, xs = [.str z] ∧ z.cps.size ≤ sizeLine ∧ ∀ l, H l = none → Q (.ref l) (upd H l (.lst (z.cps.toList.map fun c => V.str ⟨#[c]⟩)))) (fun X hX => call_list_txt hX.calm) hg hm (by decide +kernel) (ea_cons ha ea_nil he) (he := he) fun G H vs Q hk rs k => by
    obtain ⟨v, rfl, r⟩ := rs.one
    have e : (z.cps.toList.map fun c => D.str ⟨#[c]⟩) = (z.cps.toList.map fun c => (⟨#[c]⟩ : Str)).map D.str := by rw [List.map_map]; rfl
    have e2 : (z.cps.toList.map fun c => V.str ⟨#[c]⟩) = (z.cps.toList.map fun c => (⟨#[c]⟩ : Str)).map V.str := by rw [List.map_map]; rfl
    refine ⟨z, by rw [r.str_inv], hz, fun l hl => ?_⟩
    rw [e] at k
    rw [e2]
    exact k l G _ hl (hk.allocO hl (Rps.of_strs _))
end Sh
set_option Elab.async false
set_option linter.all false
set_option maxRecDepth 100000
set_option maxHeartbeats 2000000
set_option autoImplicit false
/-! ShZu: a new dict is known for good; dicts of pairs with keys of their own. -/
namespace Sh
open PySem PySem.Spec PyProof.Rows L2
theorem END.ev {F : CF} {Γ : Ga} {W W1 : OW} {e : Expr} {ds : List (Key × D)} (h : END F e Γ W ds W1) : EV F e Γ W (.ok (.dct ds)) W1 :=
  fun G H σ Q sl hk k => ⟨tLk (cE F e), fun X hX => pe_lk (cE_pe hX), h G H σ _ sl hk fun q G1 H1 hq s1 => by
    obtain ⟨gq, ob, eo, ro⟩ := s1.hk.own _ List.mem_cons_self
    obtain ⟨kvs, rfl, ro⟩ := ro.dK_inv
    refine ⟨q, _, rfl, eo, trivial, fun od => ?_⟩
    have st1 := s1.hk.write (i := 0) (a := q) (w := .dK ds) (w' := .raw (.frz od (.dK kvs))) (o' := .frz od (.dK kvs)) rfl ⟨rfl, fun ps z => by cases z⟩ (fun c x z => by
      have eo' : H1 q = some (.dK kvs) := eo
      rw [eo'] at z; cases z)
    obtain ⟨o2, e2, r2, st2⟩ := st1.hk.freeze (i := 0) (a := q) rfl
    have e3 : o2 = .frz od (.dK kvs) := by
      rw [upd_same] at e2
      exact (Option.some.inj e2).symm
    subst e3
    have ro2 := ro.mono st2.le
    exact k (.ref q) _ _ ((s1.trans st1).trans st2) (.dct upd_same ro2.1 ro2.2.2)⟩
theorem merge_nodup {κ : Type} [DecidableEq κ] : ∀ (ks acc : List (κ × D)), ((acc ++ ks).map (·.1)).Nodup → ks.foldl (fun a kd => putD a kd.1 kd.2) acc = acc ++ ks
  | [], acc, _ => by simp
  | (k, d) :: ks, acc, h => by
    have hk : k ∉ acc.map (·.1) := fun hm => by
      rw [List.map_append, List.map_cons] at h
      exact (List.nodup_append.mp h).2.2 k hm k List.mem_cons_self rfl
    have e : putD acc k d = acc ++ [(k, d)] := by
      unfold putD
      rw [if_neg]
      intro q
      rw [List.any_eq_true] at q
      obtain ⟨x, h1, h2⟩ := q
      exact hk (List.mem_map.mpr ⟨x, h1, of_decide_eq_true h2⟩)
    rw [List.foldl_cons]
    show ks.foldl _ (putD acc k d) = _
    rw [e, merge_nodup ks (acc ++ [(k, d)]) (by rw [List.append_assoc]; exact h), List.append_assoc]
    rfl
theorem mergeD_nodup {ks : List (Key × D)} (h : (ks.map (·.1)).Nodup) : mergeD ks = ks := by
  unfold mergeD
  rw [merge_nodup ks [] (by simpa using h), List.nil_append]
theorem valD_at {κ : Type} [DecidableEq κ] : ∀ {ks : List (κ × D)} {i : Nat} {k : κ} {d : D}, (ks.map (·.1)).Nodup → ks[i]? = some (k, d) → valD ks k = some d
  | [], i, k, d, _, h => by simp at h
  | (k0, d0) :: ks, i, k, d, hn, h => by
    rw [List.map_cons, List.nodup_cons] at hn
    unfold valD
    rw [List.find?_cons]
    cases i with
    | zero =>
      simp only [List.getElem?_cons_zero, Option.some.injEq, Prod.mk.injEq] at h
      rw [h.1, h.2, decide_eq_true rfl]
      rfl
    | succ i =>
      rw [List.getElem?_cons_succ] at h
      have hm : k ∈ ks.map (·.1) := List.mem_map.mpr ⟨(k, d), List.mem_of_getElem? h, rfl⟩
      rw [decide_eq_false fun e : k0 = k => hn.1 (e ▸ hm)]
      exact valD_at hn.2 h
/-- sorted of a tuple of texts -/
def rSortTu (K : PySem.W.Frag) : List V → Hp → VK → Prop := fun vs H Q => ∃ (a : Addr) (zs : List Str), vs = [V.ref a] ∧ SqT K H a (zs.map V.str) ∧ zs.length < 64 ∧
  ∀ (ys : List Str) (p : Addr), ys.Perm zs → sortedS ys = true → H p = none → Q (.ref p) (upd H p (.lst (ys.map V.str)))
theorem cr_sortTu {X : Cx} : CallR X (.builtin "sorted") (rSortTu X.K) := by
  intro pins s σ H vs us Q I r h
  obtain ⟨a, zs, rfl, hs, h64, q⟩ := h
  rw [Vals.ref1 r]
  obtain ⟨its, rv, hl, _⟩ := I.tuple hs
  have hst := rv.strs
  have hil : its.length = zs.length := by rw [← rv.length, List.length_map]
  obtain ⟨o, ho, hcl, n, hd⟩ := id hl
  refine Calls.call_function_entry kind_sorted plain_sorted entry_sorted (args_sorted1 _) ?_
  unfold Builtin.«sorted»
  refine wpAny_bind (m := checkCount "sorted" 1 1 _) (wpAny_pure ?_)
  refine wpAny_bind (wpAny_collect_seq a (.inr rfl) ho hcl hd (fun h' hh => ?_) (by rw [List.size_toArray, sizeLine_eq]; omega))
  rw [List.toList_toArray]
  refine wpAny_bind (wpAny_newList ?_ (by rw [sizeLine_eq]; omega))
  have hoL : (h'.push (seqObj "list" its.toArray 0)).get? h'.objs.size = some (seqObj "list" its.toArray 0) := Heap.get?_push_size _ rfl
  refine wpAny_bind (wpAny_holding (wpAny_call_entry slot_list_sort ⟨_, hoL, rfl⟩ entry_list_sort (list_sort_treeK (s := { s with heap := h'.push (seqObj "list" its.toArray 0) }) strKind_oneLt hoL hst.keysOf (fun v₁ v₂ rest e => keyKind_strs (by rw [← e]; exact hst)) (by rw [hil]; exact h64) fun st' hp hs => ⟨_, rfl, ?_⟩) (args_list_sort _)))
  refine wpAny_pure ⟨_, rfl, ?_⟩
  obtain ⟨ys, y1, y2, y3⟩ := sorted_out_str hst hp hs
  have I2 : Inv X pins σ H { s with heap := h' } := I.kept (t' := s.toks) hh
  have hq : H h'.objs.size = none := I2.hok.fresh (Nat.le_refl _)
  obtain ⟨ep2, hat⟩ := sortedHeap_at (vs := its) (out := (arrOf st').map (·.2)) hoL
  refine ⟨.ref h'.objs.size, upd H h'.objs.size (.lst (ys.map V.str)), I2.laid (t' := s.toks) (fun b o q => ?_) (Nat.le_refl _) ⟨?_, _, ep2, vals_of_strs y1, ?_⟩, rfl, q ys _ y2 y3 hq⟩
  · have lt := Heap.lt_size q
    rw [sortedHeap_old (Nat.ne_of_lt lt) (by rw [Heap.size_push]; exact Nat.lt_succ_of_lt lt)]
    exact Heap.get?_push_of_some _ q
  · rw [List.length_map, y2.length_eq, sizeLine_eq]
    omega
  · rw [Array.toArray_toList]
    exact hat
theorem en_sortTu {F : CF} {Γ : Ga} {W W1 : OW} {pos p : Pos} {a : Expr} {zs ms : List Str} (hg : GlS F "sorted") (hm : F.mg "sorted" = none) (ha : EV F a Γ W (.ok (.tup (zs.map .str))) W1) (h64 : zs.length < 64) (hs : ∀ ys : List Str, ys.Perm zs → sortedS ys = true → ys = ms) (he : ∀ env, starEach [a] env = (false, eval a env) :: starEach [] env := by intro _; rfl) :
    EN F (.Call (.Name "sorted" p) [a] [] pos) Γ W (ms.map .str) W1 :=
  en_callB (r := rSortTu F.K) (fun X hX => hX.K ▸ cr_sortTu) hg hm (by decide +kernel) (ea_cons ha ea_nil he) (he := he) fun G H vs Q hk rs k => by
    obtain ⟨v, rfl, r⟩ := rs.one
    obtain ⟨q, ws, rfl, e1, q1⟩ := r.tup_inv
    rw [q1.strs] at e1
    refine ⟨q, zs, rfl, sqt_up hk e1, h64, fun ys l h1 h2 hl => ?_⟩
    rw [hs ys h1 h2]
    exact k l G _ hl (hk.allocO hl (Rps.of_strs ms))
end Sh
set_option Elab.async false
set_option linter.all false
set_option maxRecDepth 100000
set_option maxHeartbeats 2000000
set_option autoImplicit false
namespace S3
open PySem PySem.Spec PyProof.Rows L2 Sh
def topS (i : Nat) : Stmt := PySem.Challenge.pw_shufflestack_k03_tricks_that_find_a_card.main.body.getD i (.Pass ⟨0, 0, 0, 0⟩)
abbrev st_check_card : Stmt := topS 8
theorem sc_check_card : FnScope ["card"] ["card"] (defScope st_check_card) := ⟨rfl, rfl, rfl, by decide +kernel, rfl, by decide +kernel, by decide +kernel⟩
def ranksL : List Nat := ("A23456789TJQK" : Str).cps.toList
def suitsL : List Nat := ("CDHS" : Str).cps.toList
def okc (z : Str) : Bool := match z.cps.toList with
  | [a, b] => decide (a ∈ ranksL) && decide (b ∈ suitsL)
  | _ => false
structure Deck (K : PySem.W.Frag) (mg : Str → Option Value) (CD : Addr) : Prop where
  len : mg "len" = none
  ranks : ∃ t, mg "RANKS" = some (.str "A23456789TJQK" t)
  suits : ∃ t, mg "SUITS" = some (.str "CDHS" t)
  err : XC K mg "DeckError" CD
inductive SChk (CD : Addr) : Law
  | ok (z : Str) (hz : z.length ≤ 1000) (h : okc z = true) : SChk CD [.str z] [] (.ok .non) []
  | er (z : Str) (hz : z.length ≤ 1000) (h : okc z = false) : SChk CD [.str z] [] (.er CD) []
section
variable {P : Program} {w : World} {K : PySem.W.Frag} {mg : Str → Option Value} {base : Heap} {T : Tb} {CD : Addr}
theorem ok_check_card {f : Addr} {fd : FuncData} {k : Nat} (D : Deck K mg CD) (Fu : Fun K "check_card" "check_card" st_check_card f fd) : FnOk P w K mg base (L2.CX P w) (k + 1) f fd ["card"] (spOf K T (SChk CD)) := by
  refine fn_def Fu sc_check_card (fun ds W o W' h => by cases h <;> rfl) fun cl E ds W o W' h => ?_
  obtain ⟨t1, hr⟩ := D.ranks
  obtain ⟨t2, hs⟩ := D.suits
  have key : ∀ z : Str, z.length ≤ 1000 → ∃ r, r = (!okc z) ∧ ET ⟨P, w, K, mg, base, ["card"], defScope st_check_card, k, fd.code, E, T, "check_card" ++ ".<locals>.", some cl⟩ (match defBody st_check_card with | [.If c _ _ _] => c | _ => .Constant .none 0 ⟨0,0,0,0⟩) [some (.str z)] [] (.ok r) [] := by
    intro z hz
    have hl : z.length = z.cps.toList.length := by simp [Str.length]
    have hzl : z.length ≤ sizeLine := Nat.le_trans hz (by decide)
    have vc : ∀ {G : CF} {p : Pos}, G.N = [("card" : Str)] → G.sc = defScope st_check_card → EV G (.Name "card" p) [some (.str z)] [] (.ok (.str z)) [] := fun {G p} h1 h2 => ev_var 0 (by rw [h1]; rfl) (by rw [h2]; exact .inl rfl) rfl
    by_cases h2 : z.cps.toList.length = 2
    · obtain ⟨a, b, e⟩ : ∃ a b, z.cps.toList = [a, b] := by
        match z.cps.toList, h2 with
        | [a, b], _ => exact ⟨a, b, rfl⟩
      refine ⟨_, ?_, et_w (ew_or (et_cmpR (ev_len (by rfl) D.len (vc rfl rfl) (.str z hzl)) ev_int (.neI _ _)) fun _ => ew_or (et_cmpR (ev_ix (vc rfl rfl) ev_int (.str hzl (c := a) (by rw [e]; rfl))) (ev_globS (by rfl) hr) (.niS a _)) fun _ => ew_or1 (et_cmpR (ev_ix (vc rfl rfl) ev_int (.str hzl (c := b) (by rw [e]; rfl))) (ev_globS (by rfl) hs) (.niS b _)))⟩
      unfold okc
      rw [e, hl, h2]
      simp [ranksL, suitsL]
    · refine ⟨true, ?_, et_w (ew_orT ?_)⟩
      · unfold okc
        split
        · rename_i a b e
          rw [e] at h2
          exact absurd rfl h2
        · rfl
      · have h3 : (!decide ((z.length : Int) = 2)) = true := by
          rw [hl, decide_eq_false (fun q => h2 (by omega))]
          rfl
        exact ET.to (et_cmpR (ev_len (by rfl) D.len (vc rfl rfl) (.str z hzl)) ev_int (.neI _ _)) h3
  cases h with
  | ok z hz h =>
    obtain ⟨r, e, q⟩ := key z hz
    rw [h] at e
    subst e
    refine ss_one (s1_ifF q (ss_nil ⟨rfl, .refl _⟩))
  | er z hz h =>
    obtain ⟨r, e, q⟩ := key z hz
    rw [h] at e
    subst e
    refine ss_one (s1_ifT q (ss_one (s1_raise D.err (by rfl) ⟨rfl, .refl _⟩)))
end
end S3

namespace S3
open PySem PySem.Spec PyProof.Rows L2 Sh
abbrev st_full_deck : Stmt := topS 9
theorem sc_full_deck : FnScope ["found", "suit", "rank"] [] (defScope st_full_deck) := ⟨rfl, rfl, rfl, by decide +kernel, rfl, by decide +kernel, by decide +kernel⟩
def cardS (r s : Nat) : Str := ⟨#[r, s]⟩
def deckS : List Str := suitsL.flatMap fun s => ranksL.map fun r => cardS r s
def deckD : List D := deckS.map D.str
inductive SDeck : Law
  | ok : SDeck [] [] (.ok (.tup deckD)) []
section
variable {P : Program} {w : World} {K : PySem.W.Frag} {mg : Str → Option Value} {base : Heap} {T : Tb} {CD : Addr}
theorem ok_full_deck {f : Addr} {fd : FuncData} {k : Nat} (D : Deck K mg CD) (htup : mg "tuple" = none) (Fu : Fun K "full_deck" "full_deck" st_full_deck f fd) : FnOk P w K mg base (L2.CX P w) (k + 1) f fd [] (spOf K T SDeck) := by
  refine fn_def Fu sc_full_deck (fun ds W o W' h => by cases h <;> rfl) fun cl E ds W o W' h => ?_
  obtain ⟨t1, hr⟩ := D.ranks
  obtain ⟨t2, hs⟩ := D.suits
  cases h
  refine ss_cons (s1_set 0 rfl (.inl rfl) (evr_new (en_lst ea_nil (by decide)) fun q => ?_))
  refine ss_cons (s1_for (ei_str (ev_globS (by rfl) hs)) (fun i Γ' W' => (∃ x y, Γ' = [some (.ptr q), x, y]) ∧ W' = [(q, .lst (((suitsL.take i).flatMap fun s => ranksL.map fun r => cardS r s).map Sh.D.str))]) ⟨⟨_, _, rfl⟩, rfl⟩ (fun _ _ _ _ => trivial) (fun i d Γ' W' hd hI => ?_) (fun Γ' W' hI => ?_))
  · obtain ⟨⟨x, y, rfl⟩, rfl⟩ := hI
    rw [List.getElem?_map] at hd
    obtain ⟨c, hc, rfl⟩ : ∃ c, suitsL[i]? = some c ∧ d = .str ⟨#[c]⟩ := by
      cases e : ("CDHS" : Str).cps.toList[i]? with
      | none => rw [e] at hd; cases hd
      | some c => rw [e] at hd; cases hd; exact ⟨c, e, rfl⟩
    refine ⟨_, _, eg_name (fun X h => h.toG) 1 rfl (.inr ⟨rfl, fun X h => h.fn _⟩), ss_one (s1_augN 0 0 rfl (.inl rfl) rfl (en_lcM (own := [("rank", 2)]) (fun d => match d with | .str z => .str (z ++ ⟨#[c]⟩) | d => d) sc_full_deck.nd (by rfl) (ei_str (ev_globS (by rfl) hr)) trivial (fun d hd => ?_) (by decide)) rfl ?_ ?_)⟩
    · obtain ⟨r, _, rfl⟩ := List.mem_map.mp hd
      exact turn_map (eg_name (fun X h => h) 2 rfl (.inl (by rfl))) (by decide) (ev_bin (ev_var 2 rfl (.inl (by rfl)) rfl) (ev_var 1 rfl (.inr (.inl (by rfl))) rfl) (.addS _ _ (show 1 + 1 ≤ sizeLine by decide)))
    · have hi : i < 4 := (List.getElem?_eq_some_iff.mp hc).1
      have : ∀ i < 4, (((suitsL.take i).flatMap fun s => ranksL.map fun r => cardS r s).map Sh.D.str).length + 13 ≤ sizeLine := by decide
      exact this i hi
    · refine ⟨⟨_, _, rfl⟩, ?_⟩
      show [(q, AO.lst _)] = [(q, AO.lst _)]
      rw [List.take_add_one, hc, List.flatMap_append, List.map_append]
      rfl
  · obtain ⟨⟨x, y, rfl⟩, rfl⟩ := hI
    refine ss_one (s1_ret (evr_of (ev_tupleL (by rfl) htup (ev_var 0 rfl (.inl rfl) rfl) (.own 0 rfl)) ⟨?_, .nil _⟩))
    rfl
end
end S3

namespace S3
open PySem PySem.Spec PyProof.Rows L2 Sh
abbrev st_is_red : Stmt := topS 10
theorem sc_is_red : FnScope ["card"] ["card"] (defScope st_is_red) := ⟨rfl, rfl, rfl, by decide +kernel, rfl, by decide +kernel, by decide +kernel⟩
def rkN (z : Str) : Nat := ranksL.idxOf (z.cps.toList.getD 0 0) + 1
def redB (z : Str) : Bool := decide (z.cps.toList.getD 1 0 ∈ ("DH" : Str).cps.toList)
theorem okc_two {z : Str} (h : okc z = true) : ∃ a b, z.cps.toList = [a, b] ∧ a ∈ ranksL ∧ b ∈ suitsL := by
  unfold okc at h
  split at h
  · rename_i a b e
    simp only [Bool.and_eq_true, decide_eq_true_eq] at h
    exact ⟨a, b, e, h.1, h.2⟩
  · cases h
theorem okc_len {z : Str} (h : okc z = true) : z.length = 2 := by
  obtain ⟨a, b, e, _⟩ := okc_two h
  have : z.length = z.cps.toList.length := by simp [Str.length]
  rw [this, e]
  rfl
theorem okc_strOk {z : Str} (h : okc z = true) : PyData.strOk z = true := by
  obtain ⟨a, b, e, h1, h2⟩ := okc_two h
  have h3 : ∀ a ∈ ranksL, decide (a < 0x110000) = true := by decide
  have h4 : ∀ b ∈ suitsL, decide (b < 0x110000) = true := by decide
  unfold PyData.strOk
  rw [← Array.all_toList, e]
  simp only [List.all_cons, List.all_nil, Bool.and_true]
  rw [h3 a h1, h4 b h2]
  rfl
theorem rk_occ : ∀ a ∈ ranksL, (Builtin.Str.occurrences "A23456789TJQK" ⟨#[a]⟩ 0 ("A23456789TJQK" : Str).length 1).head? = some (ranksL.idxOf a) := by decide +kernel
inductive SRank (CD : Addr) : Law
  | ok (z : Str) (h : okc z = true) : SRank CD [.str z] [] (.ok (.int (rkN z : Nat))) []
  | er (z : Str) (hz : z.length ≤ 1000) (h : okc z = false) : SRank CD [.str z] [] (.er CD) []
inductive SRed (CD : Addr) : Law
  | ok (z : Str) (h : okc z = true) : SRed CD [.str z] [] (.ok (.bl (redB z))) []
  | er (z : Str) (hz : z.length ≤ 1000) (h : okc z = false) : SRed CD [.str z] [] (.er CD) []
section
variable {P : Program} {w : World} {K : PySem.W.Frag} {mg : Str → Option Value} {base : Heap} {T : Tb} {CD : Addr}
theorem ok_is_red {f : Addr} {fd : FuncData} {k : Nat} (D : Deck K mg CD) (hck : Fd P w K mg base T "check_card" k 1 (SChk CD)) (Fu : Fun K "is_red" "is_red" st_is_red f fd) : FnOk P w K mg base (L2.CX P w) (k + 1) f fd ["card"] (spOf K T (SRed CD)) := by
  refine fn_def Fu sc_is_red (fun ds W o W' h => by cases h <;> rfl) fun cl E ds W o W' h => ?_
  cases h with
  | ok z h =>
    obtain ⟨a, b, e, h1, h2⟩ := okc_two h
    have hl := okc_len h
    refine ss_cons (s1_expr (evr_of (ev_pure hck (Nat.le_refl _) (by rfl) (ea_cons (ev_var 0 rfl (.inl rfl) rfl) ea_nil) (.ok z (by omega) h)) ?_))
    refine ss_one (s1_ret (evr_of (ev_cmpR (ev_ix (ev_var 0 rfl (.inl rfl) rfl) ev_int (.str (Nat.le_trans (by omega : z.length ≤ 1000) (by decide)) (c := b) (by rw [e]; rfl))) ev_str (.inS b _)) ⟨?_, .nil _⟩))
    unfold redB
    rw [e]
    rfl
  | er z hz h => exact ss_cons (s1_exprE (ev_pure hck (Nat.le_refl _) (by rfl) (ea_cons (ev_var 0 rfl (.inl rfl) rfl) ea_nil) (.er z hz h)) ⟨rfl, .nil _⟩)
end
end S3

namespace S3
open PySem PySem.Spec PyProof.Rows L2 Sh
def rowOk (zs : List Str) : Bool := zs.all okc && decide zs.Nodup
def shortRow (zs : List Str) : Prop := zs.length ≤ 1000 ∧ ∀ z ∈ zs, z.length ≤ 1000
section
variable {P : Program} {w : World} {K : PySem.W.Frag} {mg : Str → Option Value} {base : Heap} {T : Tb} {CD : Addr}
end
end S3

namespace S3
open PySem PySem.Spec PyProof.Rows L2 Sh
abbrev st_dealt : Stmt := topS 11
abbrev st_gathered : Stmt := topS 12
theorem sc_dealt : FnScope ["cards", "hands", "place"] ["cards", "hands"] (defScope st_dealt) := ⟨rfl, rfl, rfl, by decide +kernel, rfl, by decide +kernel, by decide +kernel⟩
theorem sc_gathered : FnScope ["hands", "found", "hand"] ["hands"] (defScope st_gathered) := ⟨rfl, rfl, rfl, by decide +kernel, rfl, by decide +kernel, by decide +kernel⟩
inductive SDealt (CD : Addr) : Law
  | ok (d : D) (ds : List D) (n : Nat) (hd : SeqF d ds) (hz : ds.length ≤ 1000) (h : 0 < n) (h2 : n ≤ 1000) : SDealt CD [d, .int n] [] (.ok (.tup ((List.range n).map fun i => .tup (StepS.strided ds i n)))) []
  | er (d : D) (n : Int) (h : n < 1) : SDealt CD [d, .int n] [] (.er CD) []
inductive SGath : Law
  | ok (d : D) (ds : List D) (xs : D → List D) (hd : SeqF d ds) (hx : ∀ x ∈ ds, SeqF x (xs x)) (hz : (ds.flatMap xs).length ≤ 100000) : SGath [d] [] (.ok (.tup (ds.flatMap xs))) []
theorem kk_dealt {F : CF} {scope : Scope} : True := trivial
section
variable {P : Program} {w : World} {K : PySem.W.Frag} {mg : Str → Option Value} {base : Heap} {T : Tb} {CD : Addr}
theorem ok_dealt {f : Addr} {fd : FuncData} {k : Nat} {c P0 : Addr} (D : Deck K mg CD) (htup : mg "tuple" = none) (hrng : mg "range" = none) (tab : fd.code = .ref c ∧ GxR.TabB base mg c P0 ∧ P0 ∈ T.g ∧ P0 ∉ T.l.map (·.1)) (hk : 3 ≤ k) (Fu : Fun K "dealt" "dealt" st_dealt f fd) : FnOk P w K mg base (L2.CX P w) (k + 1) f fd ["cards", "hands"] (spOf K T (SDealt CD)) := by
  refine fn_def Fu sc_dealt (fun ds W o W' h => by cases h <;> rfl) fun cl E ds W o W' h => ?_
  cases h with
  | er d n h =>
    refine ss_cons (s1_ifT (ET.to (et_cmpR (ev_var 1 rfl (.inr (.inl rfl)) rfl) ev_int (.ltI _ _)) (decide_eq_true h)) (ss_one (s1_raise D.err (by rfl) ⟨rfl, .refl _⟩)))
  | ok d ds n hd hz h h2 =>
    refine ss_cons (s1_ifF (ET.to (et_cmpR (ev_var 1 rfl (.inr (.inl rfl)) rfl) ev_int (.ltI _ _)) (decide_eq_false (by omega))) (ss_nil ?_))
    have hm : ((rngD 0 ((n : Int)).toNat).map fun x => match x with | .int i => Sh.D.tup (StepS.strided ds i.toNat n) | x => x) = (List.range n).map fun i => Sh.D.tup (StepS.strided ds i n) := by
      unfold rngD
      rw [List.map_map]
      refine List.map_congr_left fun i _ => ?_
      show Sh.D.tup (StepS.strided ds (0 + (i : Int)).toNat n) = _
      rw [Int.zero_add, Int.toNat_natCast]
    refine ss_one (s1_ret (evr_of (EV.to (ev_tupG (by rfl) htup (gen_hM (own := [("place", 2)]) (fun x => match x with | .int i => Sh.D.tup (StepS.strided ds i.toNat n) | x => x) ⟨c, P0, tab.1, tab.2.1, tab.2.2.1, tab.2.2.2⟩ hk sc_dealt.nd (by rfl) ⟨rfl, by decide +kernel, by rfl⟩
      (ei_range1 (by rfl) hrng (ev_var 1 rfl (.inr (.inl rfl)) rfl) (by constructor <;> omega)) trivial (fun cd x hx => ?_)) ?_) (congrArg Sh.D.tup hm)) ⟨rfl, .refl _⟩))
    · obtain ⟨i, hi, rfl⟩ := List.mem_map.mp hx
      have hi0 : (0 + (i : Int)).toNat = i := by rw [Int.zero_add, Int.toNat_natCast]
      refine turn_map (eg_name (fun X h => h) 2 rfl (.inl (by rfl))) (by decide) (EV.to (ev_tupStep (i := i) (n := n) (by rfl) htup (ev_var 0 rfl (.inr (.inr (by rfl))) rfl) (eo_some (EV.to (ev_var 2 rfl (.inl (by rfl)) rfl) (by rw [Int.zero_add]))) eo_none (eo_some (ev_var 1 rfl (.inr (.inr (by rfl))) rfl)) hd h (Nat.le_trans hz (by decide))) (by show _ = Sh.D.tup (StepS.strided ds (0 + (i : Int)).toNat n); rw [hi0]))
    · rw [List.length_map, rngD_len, Int.toNat_natCast]
      exact Nat.le_trans h2 (by decide)
theorem ok_gathered {f : Addr} {fd : FuncData} {k : Nat} (htup : mg "tuple" = none) (hlst : mg "list" = none) (Fu : Fun K "gathered" "gathered" st_gathered f fd) : FnOk P w K mg base (L2.CX P w) (k + 1) f fd ["hands"] (spOf K T SGath) := by
  refine fn_def Fu sc_gathered (fun ds W o W' h => by cases h <;> rfl) fun cl E ds W o W' h => ?_
  cases h with
  | ok d ds xs hd hx hz =>
    refine ss_cons (s1_set 1 rfl (.inl rfl) (evr_new (en_lst ea_nil (by decide)) fun q => ?_))
    refine ss_cons (s1_for (ei_seq (ev_var 0 rfl (.inl rfl) rfl) hd) (fun i Γ' W' => (∃ x, Γ' = [some d, some (.ptr q), x]) ∧ W' = [(q, .lst ((ds.take i).flatMap xs))]) ⟨⟨_, rfl⟩, rfl⟩ (fun _ _ _ _ => trivial) (fun i dd Γ' W' hdd hI => ?_) (fun Γ' W' hI => ?_))
    · obtain ⟨⟨x, rfl⟩, rfl⟩ := hI
      have hmem := List.mem_of_getElem? hdd
      have et : (ds.take (i + 1)).flatMap xs = (ds.take i).flatMap xs ++ xs dd := by
        rw [List.take_add_one, hdd, List.flatMap_append]
        simp
      have hle : ((ds.take i).flatMap xs).length + (xs dd).length ≤ 100000 := by
        rw [← List.length_append, ← et]
        have e2 : ds.flatMap xs = (ds.take (i + 1)).flatMap xs ++ (ds.drop (i + 1)).flatMap xs := by rw [← List.flatMap_append, List.take_append_drop]
        rw [e2, List.length_append] at hz
        omega
      refine ⟨_, _, eg_name (fun X h => h.toG) 2 rfl (.inl rfl) (fun ds' e => by rcases hx dd hmem with q | q <;> rw [q] at e <;> cases e), ss_one (s1_augN 1 0 rfl (.inl rfl) rfl (en_list (by rfl) hlst (ev_var 2 rfl (.inl rfl) rfl) ((hx dd hmem).q _)) rfl (Nat.le_trans hle (by decide)) ⟨⟨_, rfl⟩, by rw [et]; rfl⟩)⟩
    · obtain ⟨⟨x, rfl⟩, rfl⟩ := hI
      rw [List.take_length]
      exact ss_one (s1_ret (evr_of (ev_tupleL (by rfl) htup (ev_var 1 rfl (.inl rfl) rfl) (.own 0 rfl)) ⟨rfl, .nil _⟩))
end
end S3

namespace S3
open PySem PySem.Spec PySem.W PyProof.Rows L2 Sh
/-! the law's dice -/
abbrev st_dice : Stmt := topS 28
abbrev st_roll : Stmt := topS 29
abbrev st_rounds : Stmt := topS 30
theorem sc_dice : FnScope ["cell"] ["cell"] (defScope st_dice) := ⟨rfl, rfl, rfl, by decide +kernel, rfl, by decide +kernel, by decide +kernel⟩
theorem sc_roll : FnScope ["dice", "many", "found"] ["dice", "many"] (defScope st_roll) := ⟨rfl, rfl, rfl, by decide +kernel, rfl, by decide +kernel, by decide +kernel⟩
theorem sc_rounds : FnScope ["script", "most", "cells", "cell"] ["script", "most"] (defScope st_rounds) := ⟨rfl, rfl, rfl, by decide +kernel, rfl, by decide +kernel, by decide +kernel⟩
abbrev Dice := Int × Int × Int
def diceA (s : Dice) : AO := .lst [.int s.1, .int s.2.1, .int s.2.2]
def isDice (d : D) (W : OW) : Prop := ∃ q s, d = .ptr q ∧ W = [(q, diceA s)]
def rollC (s : Dice) : Bool := decide (s.2.2 = 2) || (decide (s.2.2 = 1) && decide (0 < s.1))
def rollV (s : Dice) (n : Int) : Int := if rollC s then s.1 % n else ((s.1 * 48271 + s.2.1 * 69621 + 11) % 2147483647 / 7) % n
def rollN (s : Dice) (n : Int) : Dice := if rollC s then (s.1 / n, s.2.1, s.2.2) else ((s.1 * 48271 + s.2.1 * 69621 + 11) % 2147483647, s.2.1 + 1, 0)
theorem rollV_in (s : Dice) {n : Int} (h : 0 < n) : 0 ≤ rollV s n ∧ rollV s n < n := by
  unfold rollV
  split
  · exact ⟨Int.emod_nonneg _ (by omega), Int.emod_lt_of_pos _ h⟩
  · exact ⟨Int.emod_nonneg _ (by omega), Int.emod_lt_of_pos _ h⟩
inductive SDice : LawR
  | mk (c : Int) : SDice [.int c] [] isDice
inductive SRoll : Law
  | mk (q : Addr) (s : Dice) (n : Int) (h0 : 0 < n) (h1 : n ≤ 100000000) : SRoll [.ptr q, .int n] [(q, diceA s)] (.ok (.int (rollV s n))) [(q, diceA (rollN s n))]
section
variable {P : Program} {w : World} {K : PySem.W.Frag} {mg : Str → Option Value} {base : Heap} {T : Tb} {CD : Addr}
theorem ok_dice {f : Addr} {fd : FuncData} {k : Nat} (habs : mg "abs" = none) (hint : mg "int" = none) (Fu : Fun K "_law_dice" "_law_dice" st_dice f fd) : FnOk P w K mg base (L2.CX P w) (k + 1) f fd ["cell"] (spOfR K T SDice) := by
  refine fn_defR Fu sc_dice (fun ds W Pp h => by cases h <;> rfl) fun cl E ds W Pp h => ?_
  cases h with
  | mk c =>
    refine ss_cons (s1_if (et_chain (ev_bin ev_int ev_int (.subI _ _)) (ev_var 0 rfl (.inl rfl) rfl) (.ltI _ _) (fun _ => ev_int) (fun _ => .ltI _ _)) (fun _ => ?_) fun _ => ss_nil ?_)
    · exact ss_one (s1_ret (evr_new (en_lst (ea_cons (ev_abs (by rfl) habs (ev_var 0 rfl (.inl rfl) rfl)) (ea_cons ev_int (ea_cons ev_int ea_nil))) (Nat.le_of_ble_eq_true rfl)) fun q => ⟨_, .refl _, q, (_, _, _), rfl, rfl⟩))
    · exact ss_one (s1_ret (evr_new (en_lst (ea_cons (ev_var 0 rfl (.inl rfl) rfl) (ea_cons (ev_bin ev_int (ev_bin (ev_intI (by rfl) hint (ev_var 0 rfl (.inl rfl) rfl)) ev_int (.modI _ _ (by decide))) (.addI _ _)) (ea_cons (ev_intB (by rfl) hint (ev_cmpR (ev_var 0 rfl (.inl rfl) rfl) (ev_pow ev_int ev_int (by unfold CPow; decide)) (.geI _ _))) ea_nil))) (Nat.le_of_ble_eq_true rfl)) fun q => ⟨_, .refl _, q, (_, _, _), rfl, rfl⟩))
theorem ok_roll {f : Addr} {fd : FuncData} {k : Nat} (hint : mg "int" = none) (Fu : Fun K "_law_roll" "_law_roll" st_roll f fd) : FnOk P w K mg base (L2.CX P w) (k + 1) f fd ["dice", "many"] (spOf K T SRoll) := by
  refine fn_def Fu sc_roll (fun ds W o W' h => by cases h <;> rfl) fun cl E ds W o W' h => ?_
  cases h with
  | mk q s n h0 h1 =>
    obtain ⟨a, b, m⟩ := s
    have dv := fun {p : Pos} {Γ : Ga} {W : OW} (e : Γ[0]? = some (some (.ptr q))) => ev_var (F := ⟨P, w, K, mg, base, ["dice", "many", "found"], defScope st_roll, k, fd.code, E, T, "_law_roll" ++ ".<locals>.", some cl⟩) (pos := p) (W := W) 0 (x := "dice") rfl (.inl rfl) e
    have di := fun {p p2 p3 : Pos} {j : Nat} {i : Int} {x : Sh.D} {xs : List Sh.D} {Γ : Ga} (e : Γ[0]? = some (some (.ptr q))) (e2 : L2.atI xs i = some x) => ev_ix (pos := p3) (d := x) (dv (p := p) (W := [(q, AO.lst xs)]) e) (ev_int (i := i) (j := j) (pos := p2)) (.lst (.own 0 rfl) e2)
    refine ss_cons (s1_if (r := rollC (a, b, m)) (et_w (ew_or (et_cmpR (di rfl rfl) ev_int (.eqI _ _)) fun _ => ew_or1 (et_w (ew_and (et_cmpR (di rfl rfl) ev_int (.eqI _ _)) fun _ => ew_and1 (et_cmpR (di rfl rfl) ev_int (.gtI _ _)))))) (fun hr => ?_) fun hr => ss_nil ?_)
    · refine ss_cons (s1_set 2 rfl (.inl rfl) (evr_of (ev_bin (ev_intI (by rfl) hint (di rfl rfl)) (ev_var 1 rfl (.inl rfl) rfl) (.modI _ _ h0)) ?_))
      refine ss_cons (s1_store (i := 0) (ev_bin (di rfl rfl) (ev_var 1 rfl (.inl rfl) rfl) (.divI _ _ ⟨h0, by omega⟩)) (dv rfl) ev_int rfl (by rfl) ?_)
      refine ss_one (s1_ret (evr_of (ev_var 2 rfl (.inl rfl) rfl) ⟨?_, ?_⟩))
      · unfold rollV
        rw [if_pos hr]
      · unfold rollN
        rw [if_pos hr]
        exact .refl _
    · refine ss_cons (s1_store (i := 0) ev_int (dv rfl) ev_int rfl (by rfl) ?_)
      refine ss_cons (s1_ifF (ET.to (et_cmpR (ev_var 1 rfl (.inl rfl) rfl) ev_int (.gtI _ _)) (decide_eq_false (by omega))) (ss_nil ?_))
      refine ss_cons (s1_store (i := 0) (ev_bin (ev_intI (by rfl) hint (ev_bin (ev_bin (ev_bin (di rfl rfl) ev_int (.mulI _ _ (.inr (by decide)))) (ev_bin (di rfl rfl) ev_int (.mulI _ _ (.inr (by decide)))) (.addI _ _)) ev_int (.addI _ _))) ev_int (.modI _ _ (by decide))) (dv rfl) ev_int rfl (by rfl) ?_)
      refine ss_cons (s1_store (i := 0) (ev_bin (di rfl rfl) ev_int (.addI _ _)) (dv rfl) ev_int rfl (by rfl) ?_)
      refine ss_one (s1_ret (evr_of (ev_bin (ev_intI (by rfl) hint (ev_bin (di rfl rfl) ev_int (.divI _ _ (by decide)))) (ev_var 1 rfl (.inl rfl) rfl) (.modI _ _ h0)) ⟨?_, ?_⟩))
      · unfold rollV
        rw [if_neg (by rw [hr]; exact Bool.false_ne_true)]
      · unfold rollN
        rw [if_neg (by rw [hr]; exact Bool.false_ne_true)]
        exact .refl _
end
end S3

namespace S3
open PySem PySem.Spec PySem.W PyProof.Rows L2 Sh
abbrev st_ldeck : Stmt := topS 32
abbrev st_mixed : Stmt := topS 33
theorem sc_ldeck : FnScope ["found", "suit", "rank"] [] (defScope st_ldeck) := ⟨rfl, rfl, rfl, by decide +kernel, rfl, by decide +kernel, by decide +kernel⟩
theorem sc_mixed : FnScope ["dice", "cards", "many", "left", "found", "k", "place"] ["dice", "cards", "many"] (defScope st_mixed) := ⟨rfl, rfl, rfl, by decide +kernel, rfl, by decide +kernel, by decide +kernel⟩
inductive SRounds (K : PySem.W.Frag) (T : Tb) : LawR
  | mk (q : Addr) (ns : List Int) (W : OW) (hS : Stands K T q (ns.map .int) W) : SRounds K T [.ptr q, .int 1] W (fun d W' => ∃ L p s, d = .ptr L ∧ W' = (L, .lst [.ptr p]) :: (p, diceA s) :: W)
inductive SLDeck : Law
  | ok : SLDeck [] [] (.ok (.lst deckD)) []
/-! mixed -/
section
variable {α : Type}
def mixStep (x0 : α) (t : Dice × List α × List α) : Dice × List α × List α :=
  let p := (rollV t.1 t.2.1.length).toNat
  (rollN t.1 t.2.1.length, t.2.1.take p ++ t.2.1.drop (p + 1), t.2.2 ++ [t.2.1.getD p x0])
def mixAt (x0 : α) (s : Dice) (xs : List α) : Nat → Dice × List α × List α
  | 0 => (s, xs, [])
  | i + 1 => mixStep x0 (mixAt x0 s xs i)
theorem roll_lt (s : Dice) {n : Nat} (h : 0 < n) : (rollV s n).toNat < n ∧ rollV s n = ((rollV s n).toNat : Int) := by
  have := rollV_in s (n := n) (by omega)
  omega
theorem mixAt_ok (x0 : α) (s : Dice) (xs : List α) : ∀ i, i ≤ xs.length → ((mixAt x0 s xs i).2.2 ++ (mixAt x0 s xs i).2.1).Perm xs ∧ (mixAt x0 s xs i).2.2.length = i ∧ (mixAt x0 s xs i).2.1.length = xs.length - i
  | 0, _ => ⟨.refl _, rfl, rfl⟩
  | i + 1, h => by
    obtain ⟨h1, h2, h3⟩ := mixAt_ok x0 s xs i (by omega)
    rw [show mixAt x0 s xs (i + 1) = mixStep x0 (mixAt x0 s xs i) from rfl]
    generalize mixAt x0 s xs i = t at h1 h2 h3 ⊢
    obtain ⟨s', l, f⟩ := t
    simp only at h1 h2 h3
    have hp := (roll_lt s' (n := l.length) (by omega)).1
    unfold mixStep
    simp only
    generalize (rollV s' l.length).toNat = p at hp ⊢
    have hg : l.getD p x0 = l[p] := by
      rw [List.getD_eq_getElem?_getD, List.getElem?_eq_getElem hp]
      rfl
    have hl : l = l.take p ++ (l[p] :: l.drop (p + 1)) := by
      rw [List.getElem_cons_drop, List.take_append_drop]
    refine ⟨?_, by rw [List.length_append, h2]; rfl, ?_⟩
    · rw [hg]
      refine List.Perm.trans ?_ h1
      rw [List.append_assoc]
      refine List.Perm.append_left f ?_
      have : (l.take p ++ (l[p] :: l.drop (p + 1))).Perm l := by rw [← hl]
      refine List.Perm.trans ?_ this
      exact (List.perm_middle (l₁ := l.take p)).symm
    · show (l.take p ++ l.drop (p + 1)).length = xs.length - (i + 1)
      rw [List.length_append, List.length_take, List.length_drop]
      omega
end
def mixM (m : Int) (n : Nat) : Nat := min m.toNat n
inductive SMix : Law
  | mk (q : Addr) (s : Dice) (d : D) (xs : List D) (m : Int) (hd : SeqF d xs) (hz : xs.length ≤ 1000) (h0 : 0 ≤ m) (h1 : m ≤ 100000000) : SMix [.ptr q, d, .int m] [(q, diceA s)] (.ok (.lst (mixAt .non s xs (mixM m xs.length)).2.2)) [(q, diceA (mixAt .non s xs (mixM m xs.length)).1)]
section
variable {P : Program} {w : World} {K : PySem.W.Frag} {mg : Str → Option Value} {base : Heap} {T : Tb} {CD : Addr}
theorem ok_rounds {f : Addr} {fd : FuncData} {k : Nat} (hdice : FdR P w K mg base T "_law_dice" k 1 SDice) (Fu : Fun K "_law_rounds" "_law_rounds" st_rounds f fd) : FnOk P w K mg base (L2.CX P w) (k + 1) f fd ["script", "most"] (spOfR K T (SRounds K T)) := by
  refine fn_defR Fu sc_rounds (fun ds W Pp h => by cases h <;> rfl) fun cl E ds W Pp h => ?_
  cases h with
  | mk q ns W hS =>
    have he : cutD ns none (some 1) = ns.take 1 := cutD_to ns 1
    have fin : ∀ c : Int, SS ⟨P, w, K, mg, base, ["script", "most", "cells", "cell"], defScope st_rounds, k, fd.code, E, T, "_law_rounds" ++ ".<locals>.", some cl⟩ ((defBody st_rounds).drop 2) [some (.ptr q), some (.int 1), some (.lst [.int c]), none] W (AEofR (fun d W' => ∃ L p s, d = .ptr L ∧ W' = (L, .lst [.ptr p]) :: (p, diceA s) :: W)) := fun c => by
      refine ss_one (s1_ret (evr_lcR (own := [("cell", 3)]) sc_rounds.nd (by rfl) (ei_list (ev_var 2 rfl (.inl rfl) rfl) .lst) (fun i acc W' => (i = 0 ∧ acc = [] ∧ W' = W) ∨ (i = 1 ∧ ∃ p s, acc = [.ptr p] ∧ W' = (p, diceA s) :: W)) (.inl ⟨rfl, rfl, rfl⟩) (fun i acc W' h => ⟨.inl rfl, ?_⟩) (fun i d acc W' hd h => ?_) (show 1 < sizeLine by decide) (fun acc W' L h => ?_)))
      · rcases h with ⟨rfl, rfl, _⟩ | ⟨rfl, p, s, rfl, _⟩
        · exact Nat.le_refl _
        · exact Nat.le_refl _
      · rcases h with ⟨rfl, rfl, rfl⟩ | ⟨rfl, _⟩
        · cases hd
          refine ⟨_, _, eg_name (fun X h => h) 3 rfl (.inl (by rfl)), by decide, evr_callR (Wf := []) (Wr := W') hdice (Nat.le_refl _) (by rfl) (ea_cons (ev_var 3 rfl (.inl (by rfl)) rfl) ea_nil) (.refl _) (.mk c) fun d Wf' hd => .inr ⟨rfl, ?_⟩⟩
          obtain ⟨p, s, rfl, rfl⟩ := hd
          exact ⟨p, s, rfl, rfl⟩
        · cases hd
      · rcases h with ⟨h, _⟩ | ⟨_, p, s, rfl, rfl⟩
        · cases h
        · exact ⟨_, .refl _, L, p, s, rfl, rfl⟩
    refine ss_cons (s1_set 2 rfl (.inl rfl) (evr_of (EN.ev (EN.to (en_sliceV (ev_var 0 rfl (.inl rfl) rfl) eo_none (eo_some (ev_var 1 rfl (.inl rfl) rfl)) hS) (by rw [he]))) ?_))
    cases ns with
    | nil =>
      refine ss_cons (s1_ifT (ET.to (et_cmpR (ev_var 2 rfl (.inl rfl) rfl) (EN.ev (en_lst ea_nil (by decide))) (.eqD (Py.intsL []) (Py.intsL []) (shaped_intsL []) (shaped_intsL []) rfl)) (enc_int.list.eq [] [])) (ss_one (s1_set 2 rfl (.inl rfl) (evr_of (EN.ev (en_lst (ea_cons ev_int ea_nil) (by decide))) ?_))))
      exact fin 0
    | cons n ns =>
      refine ss_cons (s1_ifF (ET.to (et_cmpR (ev_var 2 rfl (.inl rfl) rfl) (EN.ev (en_lst ea_nil (by decide))) (.eqD (Py.intsL [n]) (Py.intsL []) (shaped_intsL [n]) (shaped_intsL []) rfl)) (enc_int.list.eq [n] [])) (ss_nil ?_))
      exact fin n
theorem ok_ldeck {f : Addr} {fd : FuncData} {k : Nat} (Fu : Fun K "_law_deck" "_law_deck" st_ldeck f fd) : FnOk P w K mg base (L2.CX P w) (k + 1) f fd [] (spOf K T SLDeck) := by
  refine fn_def Fu sc_ldeck (fun ds W o W' h => by cases h <;> rfl) fun cl E ds W o W' h => ?_
  cases h
  refine ss_cons (s1_set 0 rfl (.inl rfl) (evr_of (EN.ev (en_lst ea_nil (by decide))) ?_))
  refine ss_cons (s1_for (ei_str ev_str) (fun i Γ' W' => (∃ x y, Γ' = [some (.lst (((suitsL.take i).flatMap fun s => ranksL.map fun r => cardS r s).map Sh.D.str)), x, y]) ∧ W' = []) ⟨⟨_, _, rfl⟩, rfl⟩ (fun _ _ _ _ => trivial) (fun i d Γ' W' hd hI => ?_) (fun Γ' W' hI => ?_))
  · obtain ⟨⟨x, y, rfl⟩, rfl⟩ := hI
    rw [List.getElem?_map] at hd
    obtain ⟨c, hc, rfl⟩ : ∃ c, suitsL[i]? = some c ∧ d = .str ⟨#[c]⟩ := by
      cases e : ("CDHS" : Str).cps.toList[i]? with
      | none => rw [e] at hd; cases hd
      | some c => rw [e] at hd; cases hd; exact ⟨c, e, rfl⟩
    refine ⟨_, _, eg_name (fun X h => h.toG) 1 rfl (.inr ⟨rfl, fun X h => h.fn _⟩), ss_one (s1_set 0 rfl (.inl rfl) (evr_of (EN.ev (en_cat (ev_var 0 rfl (.inl rfl) rfl) (EN.ev (en_lcM (own := [("rank", 2)]) (fun d => match d with | .str z => .str (z ++ ⟨#[c]⟩) | d => d) sc_ldeck.nd (by rfl) (ei_str ev_str) trivial (fun d hd => ?_) (by decide))) .lst .lst ?_)) ?_))⟩
    · obtain ⟨r, _, rfl⟩ := List.mem_map.mp hd
      exact turn_map (eg_name (fun X h => h) 2 rfl (.inl (by rfl))) (by decide) (ev_bin (ev_var 2 rfl (.inl (by rfl)) rfl) (ev_var 1 rfl (.inr (.inl (by rfl))) rfl) (.addS _ _ (show 1 + 1 ≤ sizeLine by decide)))
    · have hi : i < 4 := (List.getElem?_eq_some_iff.mp hc).1
      have : ∀ i < 4, (((suitsL.take i).flatMap fun s => ranksL.map fun r => cardS r s).map Sh.D.str).length + 13 ≤ sizeLine := by decide
      exact this i hi
    · refine ⟨⟨some (.str ⟨#[c]⟩), y, ?_⟩, rfl⟩
      rw [List.take_add_one, hc, List.flatMap_append, List.map_append]
      rfl
  · obtain ⟨⟨x, y, rfl⟩, rfl⟩ := hI
    exact ss_one (s1_ret (evr_of (ev_var 0 rfl (.inl rfl) rfl) ⟨rfl, .nil _⟩))
theorem ok_mixed {f : Addr} {fd : FuncData} {k : Nat} (hlst : mg "list" = none) (hrng : mg "range" = none) (hmin : mg "min" = none) (hlen : mg "len" = none) (hroll : Fd P w K mg base T "_law_roll" k 2 SRoll) (Fu : Fun K "_law_mixed" "_law_mixed" st_mixed f fd) : FnOk P w K mg base (L2.CX P w) (k + 1) f fd ["dice", "cards", "many"] (spOf K T SMix) := by
  refine fn_def Fu sc_mixed (fun ds W o W' h => by cases h <;> rfl) fun cl E ds W o W' h => ?_
  cases h with
  | mk q s d xs m hd hz h0 h1 =>
    refine ss_cons (s1_par 3 4 rfl rfl (by decide) rfl rfl (ear_cons (evr_of (EN.ev (en_list (by rfl) hlst (ev_var 1 rfl (.inl rfl) rfl) (hd.q _))) (ear_cons (evr_of (EN.ev (en_lst ea_nil (by decide))) (ear_nil ⟨_, _, rfl, ?_⟩))))) (fun env he => by
      obtain ⟨a1, a2, a3, a4, a5, a6, a7, a8, a9⟩ := env
      cases he
      rfl))
    have hmm : (if ((xs.length : Nat) : Int) < m then ((xs.length : Nat) : Int) else m) = (mixM m xs.length : Nat) := by
      unfold mixM
      split <;> omega
    have hml : mixM m xs.length ≤ xs.length := by unfold mixM; omega
    refine ss_cons (s1_for (ei_range1 (j := (mixM m xs.length : Nat)) (by rfl) hrng (EV.to (ev_min2 (by rfl) hmin (ea_cons (ev_var 2 rfl (.inl rfl) rfl) (ea_cons (ev_len (by rfl) hlen (ev_var 3 rfl (.inl rfl) rfl) (.lst .lst)) ea_nil))) (congrArg Sh.D.int hmm)) (by constructor <;> omega)) (fun i Γ' W' => (∃ x y, Γ' = [some (.ptr q), some d, some (.int m), some (.lst (mixAt .non s xs i).2.1), some (.lst (mixAt .non s xs i).2.2), x, y]) ∧ W' = [(q, diceA (mixAt .non s xs i).1)]) ⟨⟨_, _, rfl⟩, rfl⟩ (fun _ _ _ _ => trivial) (fun i dd Γ' W' hdd hI => ?_) (fun Γ' W' hI => ?_))
    · obtain ⟨⟨x, y, rfl⟩, rfl⟩ := hI
      obtain ⟨hi, rfl⟩ := rngD_get hdd
      have hi : i < xs.length := by omega
      obtain ⟨g1, g2, g3⟩ := mixAt_ok Sh.D.non s xs i (by omega)
      have e1 : mixAt Sh.D.non s xs (i + 1) = mixStep .non (mixAt .non s xs i) := rfl
      rw [e1]
      generalize mixAt Sh.D.non s xs i = t at g1 g2 g3 ⊢
      obtain ⟨s', l, fo⟩ := t
      simp only at g1 g2 g3
      obtain ⟨hp, hpe⟩ := roll_lt s' (n := l.length) (by omega)
      refine ⟨_, _, eg_name (fun X h => h.toG) 5 rfl (.inl rfl), ?_⟩
      refine ss_cons (s1_set 6 rfl (.inl rfl) (evr_of (ev_at (i := 0) (m := diceA s') hroll (Nat.le_refl _) (by rfl) (ea_cons (ev_var 0 rfl (.inl rfl) rfl) (ea_cons (ev_len (by rfl) hlen (ev_var 3 rfl (.inl rfl) rfl) (.lst .lst)) ea_nil)) rfl (.mk q s' l.length (by omega) (by omega))) ?_))
      unfold mixStep
      simp only
      rw [hpe]
      generalize (rollV s' l.length).toNat = p at hp ⊢
      rw [Int.toNat_natCast]
      have hg : L2.atI l (p : Int) = some (l.getD p .non) := atI_nat (by
        rw [List.getD_eq_getElem?_getD, List.getElem?_eq_getElem hp]
        rfl)
      refine ss_one (s1_par 4 3 rfl rfl (by decide) rfl rfl (ear_cons (evr_of (ev_bin (ev_var 4 rfl (.inl rfl) rfl) (EN.ev (en_lst (ea_cons (ev_ix (ev_var 3 rfl (.inl rfl) rfl) (ev_var 6 rfl (.inl rfl) rfl) (.lst .lst hg)) ea_nil) (Nat.le_of_ble_eq_true rfl))) (.addL .lst .lst ?_)) (ear_cons (evr_of (ev_bin (EN.ev (EN.to (en_slice (ev_var 3 rfl (.inl rfl) rfl) eo_none (eo_some (ev_var 6 rfl (.inl rfl) rfl)) .lst) (cutD_to l p))) (EN.ev (EN.to (en_slice (ev_var 3 rfl (.inl rfl) rfl) (eo_some (ev_bin (ev_var 6 rfl (.inl rfl) rfl) ev_int (.addI _ _))) eo_none .lst) (show cutD l (some ((p : Int) + 1)) none = l.drop (p + 1) from cutD_from l (p + 1)))) (.addL .lst .lst ?_)) (ear_nil ⟨_, _, rfl, ⟨some (.int (0 + i)), some (.int p), ?_⟩, ?_⟩))))) (fun env he => by
        obtain ⟨a1, a2, a3, a4, a5, a6, a7, a8, a9⟩ := env
        cases he
        rfl))
      · exact Nat.le_trans (show fo.length + 1 ≤ 2000 by omega) (by decide)
      · rw [List.length_take, List.length_drop]
        exact Nat.le_trans (show _ ≤ 2000 by omega) (by decide)
      · rfl
      · rfl
    · obtain ⟨⟨x, y, rfl⟩, rfl⟩ := hI
      rw [rngD_len, Int.toNat_natCast]
      exact ss_one (s1_ret (evr_of (ev_var 4 rfl (.inl rfl) rfl) ⟨rfl, .refl _⟩))
end
end S3

namespace S3
open PySem PySem.Spec PyProof.Rows L2 Sh
theorem in_deck {z : Str} (h : okc z = true) : z ∈ deckS := by
  obtain ⟨a, b, e, h1, h2⟩ := okc_two h
  have ez : z = cardS a b := by
    obtain ⟨⟨l⟩⟩ := z
    have e : l = [a, b] := e
    rw [e]
    rfl
  rw [ez]
  exact List.mem_flatMap.mpr ⟨b, h2, List.mem_map.mpr ⟨a, h1, rfl⟩⟩
theorem deck_okc : ∀ z ∈ deckS, okc z = true := by decide +kernel
theorem rowOk_all {zs : List Str} (h : rowOk zs = true) : ∀ z ∈ zs, okc z = true := by
  unfold rowOk at h
  rw [Bool.and_eq_true] at h
  exact List.all_eq_true.mp h.1
section
variable {P : Program} {w : World} {K : PySem.W.Frag} {mg : Str → Option Value} {base : Heap} {T : Tb} {CD : Addr}
theorem deck_strOk : ∀ z ∈ deckS, PyData.strOk z = true := fun z hz => okc_strOk (deck_okc z hz)
end
end S3

namespace S3
open PySem PySem.Spec PySem.W PyProof.Rows L2 Sh
/-! best_five: the rows of five places, the least of them -/
section
variable {α : Type} {lt : α → α → Bool}
end
/-! the data -/
/-! the walk over rows of places -/
theorem rowOk_nodup {zs : List Str} (h : rowOk zs = true) : zs.Nodup := by
  unfold rowOk at h
  rw [Bool.and_eq_true] at h
  exact of_decide_eq_true h.2
end S3

namespace S3
open PySem PySem.Spec PySem.W PyProof.Rows L2 Sh
/-! plain parts of the law's body -/
/-! mixed rows of cards -/
def mixS (s : Dice) (xs : List Str) (i : Nat) : Dice × List Str × List Str := mixAt ⟨#[]⟩ s xs i
theorem mixAt_str (s : Dice) (xs : List Str) : ∀ i, i ≤ xs.length → mixAt D.non s (xs.map .str) i = ((mixS s xs i).1, (mixS s xs i).2.1.map .str, (mixS s xs i).2.2.map .str)
  | 0, _ => rfl
  | i + 1, h => by
    have ih := mixAt_str s xs i (by omega)
    obtain ⟨_, _, h3⟩ := mixAt_ok (⟨#[]⟩ : Str) s xs i (by omega)
    show mixStep D.non (mixAt D.non s (xs.map .str) i) = ((mixStep ⟨#[]⟩ (mixS s xs i)).1, (mixStep ⟨#[]⟩ (mixS s xs i)).2.1.map .str, (mixStep ⟨#[]⟩ (mixS s xs i)).2.2.map .str)
    rw [ih]
    have h3 : (mixS s xs i).2.1.length = xs.length - i := h3
    generalize mixS s xs i = t at h3 ⊢
    obtain ⟨s', l, f⟩ := t
    have h3 : l.length = xs.length - i := h3
    have hp := (roll_lt s' (n := l.length) (by omega)).1
    unfold mixStep
    simp only [List.length_map]
    generalize (rollV s' l.length).toNat = p at hp ⊢
    rw [List.map_append, List.map_append, List.map_take, List.map_drop]
    congr 3
    rw [List.getD_eq_getElem?_getD, List.getD_eq_getElem?_getD, List.getElem?_map, List.getElem?_eq_getElem hp]
    rfl
theorem mixS_ok (s : Dice) {xs : List Str} (h : rowOk xs = true) {i : Nat} (hi : i ≤ xs.length) : rowOk (mixS s xs i).2.2 = true ∧ (mixS s xs i).2.2.length = i := by
  obtain ⟨h1, h2, _⟩ := mixAt_ok (⟨#[]⟩ : Str) s xs i hi
  refine ⟨?_, h2⟩
  have hok := rowOk_all h
  have hn := rowOk_nodup h
  unfold rowOk
  rw [Bool.and_eq_true]
  refine ⟨List.all_eq_true.mpr fun z hz => hok z (h1.mem_iff.mp (List.mem_append_left _ hz)), decide_eq_true ?_⟩
  exact (List.nodup_append.mp (h1.nodup_iff.mpr hn)).1
theorem rowOk_sub {xs ys : List Str} (h : rowOk ys = true) (hs : xs.Sublist ys) : rowOk xs = true := by
  unfold rowOk
  rw [Bool.and_eq_true]
  exact ⟨List.all_eq_true.mpr fun z hz => rowOk_all h z (hs.subset hz), decide_eq_true ((rowOk_nodup h).sublist hs)⟩
theorem deck_ok : rowOk deckS = true := by decide +kernel
theorem ok_short {zs : List Str} (h : rowOk zs = true) (hz : zs.length ≤ 1000) : shortRow zs := ⟨hz, fun z h' => by
  have := okc_len (rowOk_all h z h')
  omega⟩
/-! hands -/
theorem stride_ix (n p : Nat) (hp : p < n) : ∀ N, (List.range N).filter (fun k => decide (k % n = p)) = (List.range ((N - p + n - 1) / n)).map fun m => p + m * n
  | 0 => by
    rw [Nat.zero_sub, Nat.zero_add, Nat.div_eq_of_lt (by omega)]
    rfl
  | N + 1 => by
    rw [List.range_succ, List.filter_append, stride_ix n p hp N]
    have hn : 0 < n := by omega
    by_cases hN : N < p
    · rw [show N + 1 - p = 0 by omega, show N - p = 0 by omega, Nat.zero_add, Nat.div_eq_of_lt (by omega : n - 1 < n)]
      have : ¬ N % n = p := by
        rw [Nat.mod_eq_of_lt (by omega)]
        omega
      rw [List.filter_cons, decide_eq_false this]
      rfl
    · obtain ⟨q, r, e, hr⟩ : ∃ q r, N = p + (n * q + r) ∧ r < n := ⟨(N - p) / n, (N - p) % n, by have := Nat.div_add_mod (N - p) n; omega, Nat.mod_lt _ hn⟩
      have e1 : (N + 1 - p + n - 1) / n = q + 1 := by
        rw [show N + 1 - p + n - 1 = r + n * (q + 1) by rw [Nat.mul_succ]; omega, Nat.add_mul_div_left _ _ hn, Nat.div_eq_of_lt hr, Nat.zero_add]
      have e3 : N % n = (p + r) % n := by rw [e, show p + (n * q + r) = (p + r) + n * q by omega, Nat.add_mul_mod_self_left]
      rw [e1]
      by_cases h0 : r = 0
      · have e2 : (N - p + n - 1) / n = q := by
          rw [show N - p + n - 1 = (n - 1) + n * q by omega, Nat.add_mul_div_left _ _ hn, Nat.div_eq_of_lt (by omega), Nat.zero_add]
        rw [e2, List.range_succ, List.map_append]
        congr 1
        have : N % n = p := by rw [e3, h0, Nat.add_zero, Nat.mod_eq_of_lt hp]
        rw [List.filter_cons, decide_eq_true this, if_pos rfl, List.filter_nil, List.map_singleton]
        rw [e, h0, Nat.mul_comm q n]
        rfl
      · have e2 : (N - p + n - 1) / n = q + 1 := by
          rw [show N - p + n - 1 = (r - 1) + n * (q + 1) by rw [Nat.mul_succ]; omega, Nat.add_mul_div_left _ _ hn, Nat.div_eq_of_lt (by omega), Nat.zero_add]
        rw [e2]
        have : ¬ N % n = p := by
          rw [e3]
          by_cases hpr : p + r < n
          · rw [Nat.mod_eq_of_lt hpr]; omega
          · rw [Nat.mod_eq_sub_mod (by omega), Nat.mod_eq_of_lt (by omega)]
            omega
        rw [List.filter_cons, decide_eq_false this]
        simp
end S3

namespace S3
open PySem PySem.Spec PySem.W PyProof.Rows L2 Sh
structure Shf (K : PySem.W.Frag) (mg : Str → Option Value) (SE : Addr) : Prop where
  len : mg "len" = none
  tuple : mg "tuple" = none
  list : mg "list" = none
  range : mg "range" = none
  int : mg "int" = none
  zip : mg "zip" = none
  enum : mg "enumerate" = none
  sum : mg "sum" = none
  any : mg "any" = none
  err : XC K mg "ShuffleError" SE
section
variable {P : Program} {w : World} {K : PySem.W.Frag} {mg : Str → Option Value} {base : Heap} {T : Tb} {SE : Addr}
end
end S3

namespace S3
open PySem PySem.Spec PySem.W PyProof.Rows L2 Sh
abbrev st_riff : Stmt := topS 14
theorem sc_riff : FnScope ["cards", "word", "many", "left", "right", "found", "sign"] ["cards", "word"] (defScope st_riff) := ⟨rfl, rfl, rfl, by decide +kernel, rfl, by decide +kernel, by decide +kernel⟩
section
variable {α : Type}
end
section
variable {P : Program} {w : World} {K : PySem.W.Frag} {mg : Str → Option Value} {base : Heap} {T : Tb} {SE : Addr}
end
end S3

namespace S3
open PySem PySem.Spec PySem.W PyProof.Rows L2 Sh
def wordOk (w : List Nat) : Prop := ∀ c ∈ w, c = 108 ∨ c = 114
instance (w : List Nat) : Decidable (wordOk w) := List.decidableBAll ..
def rifI (w : List Nat) (k : Nat) : Nat := if w.getD k 0 = 108 then (w.take k).count 108 else w.count 108 + (w.take k).count 114
def riffP {α : Type} (x0 : α) (xs : List α) (w : List Nat) : List α := (List.range w.length).map fun k => xs.getD (rifI w k) x0
def unTo {α : Type} (b : Nat) (xs : List α) (w : List Nat) : List α := (xs.zip w).filterMap fun p => if p.2 = b then some p.1 else none
def unrP {α : Type} (xs : List α) (w : List Nat) : List α := unTo 108 xs w ++ unTo 114 xs w
theorem word_count : ∀ {w : List Nat}, wordOk w → w.count 108 + w.count 114 = w.length
  | [], _ => rfl
  | c :: w, h => by
    have ih := word_count (w := w) fun x hx => h x (List.mem_cons_of_mem _ hx)
    rw [List.count_cons, List.count_cons, List.length_cons]
    rcases h c List.mem_cons_self with rfl | rfl <;> simp <;> omega
theorem take_snoc {α : Type} {w : List α} {i : Nat} {c : α} (h : w[i]? = some c) : w.take (i + 1) = w.take i ++ [c] := by
  rw [List.take_add_one, h]
  rfl
theorem count_le_of {w : List Nat} {i c b : Nat} (h : w[i]? = some c) : (w.take i).count b + [c].count b ≤ w.count b := by
  have e : w = w.take (i + 1) ++ w.drop (i + 1) := (List.take_append_drop _ _).symm
  have e2 : w.count b = (w.take (i + 1)).count b + (w.drop (i + 1)).count b := by rw [← List.count_append, List.take_append_drop]
  rw [take_snoc h, List.count_append] at e2
  omega
theorem rifI_lt {w : List Nat} (hw : wordOk w) {i c : Nat} (h : w[i]? = some c) : rifI w i < w.length := by
  have hg : w.getD i 0 = c := by rw [List.getD_eq_getElem?_getD, h]; rfl
  have hc := word_count hw
  unfold rifI
  rw [hg]
  rcases hw c (List.mem_of_getElem? h) with rfl | rfl
  · have := count_le_of (b := 108) h
    simp at this ⊢
    omega
  · have := count_le_of (b := 114) h
    simp at this ⊢
    omega
inductive SRiff (SE : Addr) : Law
  | ok (d : D) (ds : List D) (z : Str) (hd : SeqF d ds) (hz : ds.length ≤ 1000) (hz2 : z.length ≤ 1000) (h1 : z.length = ds.length) (h2 : wordOk z.cps.toList) : SRiff SE [d, .str z] [] (.ok (.tup (riffP .non ds z.cps.toList))) []
  | er (d : D) (ds : List D) (z : Str) (hd : SeqF d ds) (hz : ds.length ≤ 1000) (hz2 : z.length ≤ 1000) (h : ¬ (z.length = ds.length ∧ wordOk z.cps.toList)) : SRiff SE [d, .str z] [] (.er SE) []
inductive SUnr (SE : Addr) : Law
  | ok (d : D) (ds : List D) (z : Str) (hd : SeqF d ds) (hz : ds.length ≤ 1000) (hz2 : z.length ≤ 1000) (hp : Row ds) (h1 : z.length = ds.length) (h2 : wordOk z.cps.toList) : SUnr SE [d, .str z] [] (.ok (.tup (unrP ds z.cps.toList))) []
  | er (d : D) (ds : List D) (z : Str) (hd : SeqF d ds) (hz : ds.length ≤ 1000) (hz2 : z.length ≤ 1000) (h : ¬ (z.length = ds.length ∧ wordOk z.cps.toList)) : SUnr SE [d, .str z] [] (.er SE) []
theorem any_word (w : List Nat) : ((w.map fun c => !decide (c ∈ ("lr" : Str).cps.toList)).any id) = !decide (wordOk w) := by
  have hm : ∀ c, c ∈ ("lr" : Str).cps.toList ↔ c = 108 ∨ c = 114 := fun c => by
    rw [show ("lr" : Str).cps.toList = [108, 114] by decide +kernel]
    simp
  rw [Bool.eq_iff_iff, List.any_eq_true, Bool.not_eq_true', decide_eq_false_iff_not]
  constructor
  · rintro ⟨b, hb, hb2⟩ h
    obtain ⟨c, hc, rfl⟩ := List.mem_map.mp hb
    have := (hm c).mpr (h c hc)
    simp [this] at hb2
  · intro h
    have ⟨c, hn⟩ := Classical.not_forall.mp h
    have ⟨h1, h2⟩ := Classical.not_imp.mp hn
    exact ⟨_, List.mem_map_of_mem h1, by simp [mt (hm c).mp h2]⟩
theorem len_cps (z : Str) : z.length = z.cps.toList.length := by simp [Str.length]
theorem txtD_get {z : Str} {i : Nat} {d : D} (h : (txtD z)[i]? = some d) : ∃ c, z.cps.toList[i]? = some c ∧ d = .str ⟨#[c]⟩ := by
  unfold txtD at h
  rw [List.getElem?_map] at h
  cases e : z.cps.toList[i]? with
  | none => rw [e] at h; cases h
  | some c => rw [e] at h; cases h; exact ⟨c, rfl, rfl⟩
theorem sign_eq (c : Nat) (b : Nat) : decide ((⟨#[c]⟩ : Str) = ⟨#[b]⟩) = decide (c = b) := by
  refine decide_eq_decide.mpr ⟨fun h => ?_, fun h => by rw [h]⟩
  have h := congrArg (fun z : Str => z.cps.toList) h
  simpa using h
theorem count_signs (w : List Nat) : ((w.map fun c => D.str ⟨#[c]⟩).filterMap fun x => if decide (strD x = "l") then some (D.int 1) else none).length = w.count 108 := by
  induction w with
  | nil => rfl
  | cons c w ih =>
    rw [List.map_cons, List.filterMap_cons, List.count_cons]
    have e : decide (strD (D.str ⟨#[c]⟩) = "l") = decide (c = 108) := sign_eq c 108
    rw [e]
    by_cases h : c = 108
    · subst h
      rw [if_pos (decide_eq_true rfl), beq_self_eq_true, if_pos rfl, ← ih]
      rfl
    · have : (c == 108) = false := beq_eq_false_iff_ne.mpr h
      rw [if_neg (by simp [h]), this, ← ih]
      rfl
def unF (b : Nat) : D → Option D
  | .pr [c, .str s] => if decide (s = ⟨#[b]⟩) then some c else none
  | _ => none
theorem un_eq (b : Nat) : ∀ (ds : List D) (w : List Nat), (zipD ds (w.map fun c => D.str ⟨#[c]⟩)).filterMap (unF b) = unTo b ds w
  | [], w => by simp [zipD, unTo]
  | d :: ds, [] => by simp [zipD, unTo]
  | d :: ds, c :: w => by
    have ih := un_eq b ds w
    unfold zipD unTo at ih ⊢
    rw [List.map_cons, List.zipWith_cons_cons, List.filterMap_cons, List.zip_cons_cons, List.filterMap_cons]
    have e : unF b (D.pr [d, D.str ⟨#[c]⟩]) = if decide (c = b) then some d else none := by
      rw [← sign_eq]
      rfl
    rw [e, ih]
    by_cases h : c = b
    · simp [h]
    · simp [h]
section
variable {P : Program} {w : World} {K : PySem.W.Frag} {mg : Str → Option Value} {base : Heap} {T : Tb} {SE : Addr}
theorem ok_riff {f : Addr} {fd : FuncData} {k : Nat} {c P0 : Addr} (D : Shf K mg SE) (tab : fd.code = .ref c ∧ GxR.TabB base mg c P0 ∧ P0 ∈ T.g ∧ P0 ∉ T.l.map (·.1)) (hk : 3 ≤ k) (Fu : Fun K "riffled" "riffled" st_riff f fd) : FnOk P w K mg base (L2.CX P w) (k + 1) f fd ["cards", "word"] (spOf K T (SRiff SE)) := by
  refine fn_def Fu sc_riff (fun ds W o W' h => by cases h <;> rfl) fun cl E ds W o W' h => ?_
  obtain ⟨d, ds', z, hd, hz, hz2, e1, e2, e3, hout⟩ : ∃ d ds' z, SeqF d ds' ∧ ds'.length ≤ 1000 ∧ z.length ≤ 1000 ∧ ds = [d, .str z] ∧ W = [] ∧ W' = [] ∧ ((z.length = ds'.length ∧ wordOk z.cps.toList ∧ o = .ok (.tup (riffP .non ds' z.cps.toList))) ∨ (¬ (z.length = ds'.length ∧ wordOk z.cps.toList) ∧ o = .er SE)) := by
    cases h with
    | ok d ds z hd hz hz2 h1 h2 => exact ⟨d, ds, z, hd, hz, hz2, rfl, rfl, rfl, .inl ⟨h1, h2, rfl⟩⟩
    | er d ds z hd hz hz2 h => exact ⟨d, ds, z, hd, hz, hz2, rfl, rfl, rfl, .inr ⟨h, rfl⟩⟩
  subst e1 e2 e3
  have hzl : z.length ≤ sizeLine := Nat.le_trans hz2 (by decide)
  refine ss_cons (s1_if (r := !decide (z.length = ds'.length ∧ wordOk z.cps.toList)) (ET.to (et_w (ew_or (et_cmpR (ev_len (by rfl) D.len (ev_var 1 rfl (.inl rfl) rfl) (.str z hzl)) (ev_len (by rfl) D.len (ev_var 0 rfl (.inl rfl) rfl) (hd.len _)) (.neI _ _)) fun _ => ew_or1 (et_val (ev_anyG (bs := z.cps.toList.map fun c => !decide (c ∈ ("lr" : Str).cps.toList)) (by rfl) D.any (GenH.to (gen_hM (own := [("sign", 6)]) (fun x => Sh.D.bl (!decide ((strD x).cps.toList.getD 0 0 ∈ ("lr" : Str).cps.toList))) ⟨c, P0, tab⟩ hk sc_riff.nd (by rfl) ⟨rfl, by decide +kernel, by rfl⟩ (ei_str (ev_var 1 rfl (.inl rfl) rfl)) trivial (fun cd x hx => ?_)) ?_))))) ?_) (fun hr => ?_) fun hr => ss_nil ?_)
  · obtain ⟨c, hc, rfl⟩ := List.mem_map.mp hx
    exact turn_map (eg_name (fun X h => h) 6 rfl (.inl (by rfl))) (by decide) (ev_cmpR (ev_var 6 rfl (.inl (by rfl)) rfl) ev_str (.niS c _))
  · rw [List.map_map, List.map_map]
    rfl
  · rw [any_word, Bool.decide_and]
    by_cases h1 : z.length = ds'.length
    · rw [decide_eq_true h1, decide_eq_true (by omega)]
      simp
    · rw [decide_eq_false h1, decide_eq_false (by omega)]
      simp
  · have hn : ¬ (z.length = ds'.length ∧ wordOk z.cps.toList) := of_decide_eq_false (by simpa only [Bool.not_eq_true'] using hr)
    refine ss_one (s1_raise D.err (by rfl) ⟨?_, .nil _⟩)
    rcases hout with ⟨h1, h2, _⟩ | ⟨_, q⟩
    · exact absurd ⟨h1, h2⟩ hn
    · exact q
  have hn : z.length = ds'.length ∧ wordOk z.cps.toList := of_decide_eq_true (by simpa only [Bool.not_eq_false'] using hr)
  obtain ⟨hlen, hw⟩ := hn
  have hl2 := len_cps z
  refine ss_cons (s1_set 2 rfl (.inl rfl) (evr_of (EV.to (d1 := .int ((z.cps.toList.count 108 : Nat) : Int)) (ev_len (by rfl) D.len (EN.ev (en_lcF (own := [("sign", 6)]) (fun x => if decide (strD x = "l") then some (Sh.D.int 1) else none) sc_riff.nd (by rfl) (ei_str (ev_var 1 rfl (.inl rfl) rfl)) trivial (fun x hx => ?_) ?_)) (.lst .lst)) ?_) ?_))
  · obtain ⟨c, hc, rfl⟩ := List.mem_map.mp hx
    exact turn_if (eg_name (fun X h => h) 6 rfl (.inl (by rfl))) (by decide) (et_cmpR (ev_var 6 rfl (.inl (by rfl)) rfl) ev_str (.eqS _ _)) fun _ => ev_int
  · rw [List.length_map, ← hl2]
    exact Nat.lt_of_le_of_lt hz2 (by decide)
  · rw [count_signs]
  refine ss_cons (s1_par3 3 4 5 rfl rfl rfl (by decide) (by decide) (by decide) rfl rfl rfl (ear_cons (evr_of ev_int (ear_cons (evr_of (ev_var 2 rfl (.inl rfl) rfl) (ear_cons (evr_new (en_lst ea_nil (by decide)) fun q => ear_nil ⟨_, _, _, rfl, ?_⟩)))))) (fun env he => by
    obtain ⟨a1, a2, a3, a4, a5, a6, a7, a8, a9⟩ := env
    cases he
    rfl))
  refine ss_cons (s1_for (ei_str (ev_var 1 rfl (.inl rfl) rfl)) (fun i Γ' W' => (∃ x, Γ' = [some d, some (.str z), some (.int ((z.cps.toList.count 108 : Nat) : Int)), some (.int (((z.cps.toList.take i).count 108 : Nat) : Int)), some (.int ((z.cps.toList.count 108 + (z.cps.toList.take i).count 114 : Nat) : Int)), some (.ptr q), x]) ∧ W' = [(q, .lst ((List.range i).map fun k => ds'.getD (rifI z.cps.toList k) .non))]) ⟨⟨_, rfl⟩, rfl⟩ (fun _ _ _ _ => trivial) (fun i dd Γ' W' hdd hI => ?_) (fun Γ' W' hI => ?_))
  · obtain ⟨⟨x, rfl⟩, rfl⟩ := hI
    obtain ⟨c, hc, rfl⟩ := txtD_get hdd
    have hg : z.cps.toList.getD i 0 = c := by rw [List.getD_eq_getElem?_getD, hc]; rfl
    have hil : i < z.cps.toList.length := (List.getElem?_eq_some_iff.mp hc).1
    have hlt := rifI_lt hw hc
    have hat : ds'[rifI z.cps.toList i]? = some (ds'.getD (rifI z.cps.toList i) .non) := by
      rw [List.getD_eq_getElem?_getD, List.getElem?_eq_getElem (by omega)]
      rfl
    have hsn : ((List.range (i + 1)).map fun k => ds'.getD (rifI z.cps.toList k) .non) = ((List.range i).map fun k => ds'.getD (rifI z.cps.toList k) .non) ++ [ds'.getD (rifI z.cps.toList i) .non] := by
      rw [List.range_succ, List.map_append]
      rfl
    have hz3 : ((List.range i).map fun k => ds'.getD (rifI z.cps.toList k) Sh.D.non).length < sizeLine := by
      rw [List.length_map, List.length_range]
      exact Nat.lt_of_le_of_lt (show i ≤ 1000 by omega) (by decide)
    have ht := take_snoc hc
    refine ⟨_, _, eg_name (fun X h => h.toG) 6 rfl (.inl rfl), ss_one (s1_if (r := decide (c = 108)) (ET.to (et_cmpR (ev_var 6 rfl (.inl rfl) rfl) ev_str (.eqS _ _)) (sign_eq c 108)) (fun hr => ?_) fun hr => ?_)⟩
    · have e8 : c = 108 := of_decide_eq_true hr
      subst e8
      have hri : rifI z.cps.toList i = (z.cps.toList.take i).count 108 := by unfold rifI; rw [hg, if_pos rfl]
      refine ss_cons (s1_expr (evr_append (i := 0) (ev_var 5 rfl (.inl rfl) rfl) (ev_ix (ev_var 0 rfl (.inl rfl) rfl) (ev_var 3 rfl (.inl rfl) rfl) (hd.ix (atI_nat (by rw [← hri]; exact hat)))) rfl rfl hz3 ?_))
      refine ss_one (s1_augI 3 rfl (.inl rfl) rfl ev_int ⟨⟨some (.str ⟨#[108]⟩), ?_⟩, ?_⟩)
      · rw [ht, List.count_append, List.count_append]
        simp
      · rw [hsn]
        rfl
    · have e8 : c ≠ 108 := of_decide_eq_false hr
      have e9 : c = 114 := (hw c (List.mem_of_getElem? hc)).resolve_left e8
      subst e9
      have hri : rifI z.cps.toList i = z.cps.toList.count 108 + (z.cps.toList.take i).count 114 := by unfold rifI; rw [hg, if_neg e8]
      refine ss_cons (s1_expr (evr_append (i := 0) (ev_var 5 rfl (.inl rfl) rfl) (ev_ix (ev_var 0 rfl (.inl rfl) rfl) (ev_var 4 rfl (.inl rfl) rfl) (hd.ix (atI_nat (by rw [← hri]; exact hat)))) rfl rfl hz3 ?_))
      refine ss_one (s1_augI 4 rfl (.inl rfl) rfl ev_int ⟨⟨some (.str ⟨#[114]⟩), ?_⟩, ?_⟩)
      · rw [ht, List.count_append, List.count_append]
        simp
        omega
      · rw [hsn]
        rfl
  · obtain ⟨⟨x, rfl⟩, rfl⟩ := hI
    rw [List.length_map]
    rcases hout with ⟨_, _, q⟩ | ⟨q, _⟩
    · exact ss_one (s1_ret (evr_of (ev_tupleL (by rfl) D.tuple (ev_var 5 rfl (.inl rfl) rfl) (.own 0 rfl)) ⟨q, .nil _⟩))
    · exact absurd ⟨hlen, hw⟩ q
end
end S3
set_option Elab.async false
set_option linter.all false
set_option maxRecDepth 100000
set_option maxHeartbeats 2000000
set_option autoImplicit false
namespace S3
open PySem PySem.Spec PySem.W PyProof.Rows L2 Sh
abbrev st_three : Stmt := topS 16
abbrev st_ans : Stmt := topS 17
abbrev st_paired : Stmt := topS 18
abbrev st_magic : Stmt := topS 19
abbrev st_colours : Stmt := topS 20
abbrev st_piano : Stmt := topS 21
abbrev st_spelled : Stmt := topS 22
abbrev st_five : Stmt := topS 23
abbrev st_value : Stmt := topS 25
abbrev st_toldby : Stmt := topS 26
theorem sc_piano : FnScope ["pairs", "single"] ["pairs", "single"] (defScope st_piano) := ⟨rfl, rfl, rfl, by decide +kernel, rfl, by decide +kernel, by decide +kernel⟩
theorem sc_spelled : FnScope ["cards", "text", "letters", "left", "letter", "sign"] ["cards", "text"] (defScope st_spelled) := ⟨rfl, rfl, rfl, by decide +kernel, rfl, by decide +kernel, by decide +kernel⟩
theorem sc_value : FnScope ["card"] ["card"] (defScope st_value) := ⟨rfl, rfl, rfl, by decide +kernel, rfl, by decide +kernel, by decide +kernel⟩
theorem sc_magic : FnScope ["cards", "many", "word", "sign"] ["cards", "many", "word"] (defScope st_magic) := ⟨rfl, rfl, rfl, by decide +kernel, rfl, by decide +kernel, by decide +kernel⟩
structure Trk (K : PySem.W.Frag) (mg : Str → Option Value) (TE : Addr) : Prop where
  len : mg "len" = none
  tuple : mg "tuple" = none
  list : mg "list" = none
  range : mg "range" = none
  sorted : mg "sorted" = none
  any : mg "any" = none
  all : mg "all" = none
  ranks : ∃ t, mg "RANKS" = some (.str "A23456789TJQK" t)
  suits : ∃ t, mg "SUITS" = some (.str "CDHS" t)
  err : XC K mg "TrickError" TE
def leftB (z : Str) : Bool := decide (z = "left")
inductive SPiano (TE : Addr) : Law
  | ok (n : Nat) (z : Str) (h : z = "left" ∨ z = "right") : SPiano TE [.int (n : Nat), .str z] [] (.ok (.tup [.int ((n + (if z = "left" then 1 else 0) : Nat) : Int), .int ((n + (if z = "right" then 1 else 0) : Nat) : Int)])) []
  | er (n : Int) (z : Str) (hz : PyData.strOk z = true) (h : ¬ (0 ≤ n ∧ (z = "left" ∨ z = "right"))) : SPiano TE [.int n, .str z] [] (.er TE) []
/-- the signs of a text that are no blanks -/
def lettersOf (z : Str) : List Nat := z.cps.toList.filter fun c => decide (c ≠ 32)
def turned (ds : List D) (n : Nat) : List D := (List.range n).foldl (fun a _ => a.drop 1 ++ a.take 1) ds
theorem turned_succ (ds : List D) (n : Nat) : turned ds (n + 1) = (turned ds n).drop 1 ++ (turned ds n).take 1 := by
  unfold turned
  rw [List.range_succ, List.foldl_append]
  rfl
theorem turned_len (ds : List D) : ∀ n, (turned ds n).length = ds.length
  | 0 => rfl
  | n + 1 => by
    have ih := turned_len ds n
    rw [turned_succ, List.length_append, List.length_drop, List.length_take, ih]
    omega
theorem turned_mem (ds : List D) : ∀ n, ∀ x ∈ turned ds n, x ∈ ds
  | 0, x, h => h
  | n + 1, x, h => by
    rw [turned_succ, List.mem_append] at h
    exact turned_mem ds n x (h.elim List.mem_of_mem_drop List.mem_of_mem_take)
inductive SSpell (TE : Addr) : Law
  | ok (d : D) (ds : List D) (z : Str) (x : D) (r : List D) (hd : SeqF d ds) (hp : Row ds) (hz : ds.length ≤ 1000) (hz2 : z.length ≤ 1000) (hs : PyData.strOk z = true) (h1 : lettersOf z ≠ []) (e : turned ds ((lettersOf z).length - 1) = x :: r) : SSpell TE [d, .str z] [] (.ok (.tup [x, .tup r])) []
  | er (d : D) (ds : List D) (z : Str) (hd : SeqF d ds) (hz : ds.length ≤ 1000) (hz2 : z.length ≤ 1000) (hs : PyData.strOk z = true) (h : lettersOf z = [] ∨ ds = []) : SSpell TE [d, .str z] [] (.er TE) []
def suN (z : Str) : Nat := suitsL.idxOf (z.cps.toList.getD 1 0)
inductive SVal (TE : Addr) : Law
  | ok (z : Str) (h : okc z = true) : SVal TE [.str z] [] (.ok (.tup [.int (rkN z : Nat), .int (suN z : Nat)])) []
  | er (z : Str) (hz : z.length ≤ 1000) (h : okc z = false) : SVal TE [.str z] [] (.er TE) []
theorem su_occ : ∀ a ∈ suitsL, (Builtin.Str.occurrences "CDHS" ⟨#[a]⟩ 0 ("CDHS" : Str).length 1).head? = some (suitsL.idxOf a) := by decide +kernel
theorem head_rest {l : List Nat} {a : Nat} (h : l.head? = some a) : ∃ rest, l = a :: rest := by
  cases l with
  | nil => cases h
  | cons x r => cases h; exact ⟨r, rfl⟩
section
variable {P : Program} {w : World} {K : PySem.W.Frag} {mg : Str → Option Value} {base : Heap} {T : Tb} {TE SE : Addr}
theorem ok_piano {f : Addr} {fd : FuncData} {k : Nat} (D : Trk K mg TE) (Fu : Fun K "piano" "piano" st_piano f fd) : FnOk P w K mg base (L2.CX P w) (k + 1) f fd ["pairs", "single"] (spOf K T (SPiano TE)) := by
  refine fn_def Fu sc_piano (fun ds W o W' h => by cases h <;> rfl) fun cl E ds W o W' h => ?_
  have htest : ∀ (n : Int) (z : Str), PyData.strOk z = true → (decide (n < 0) || !decide (z ∈ (["left", "right"] : List Str))) = !decide (0 ≤ n ∧ (z = "left" ∨ z = "right")) := fun n z _ => by
    rw [Bool.decide_and, Bool.not_and]
    congr 1
    · rw [← decide_not]
      exact decide_eq_decide.mpr (by omega)
    · refine congrArg (!·) (decide_eq_decide.mpr ?_)
      simp
  cases h with
  | er n z hz h =>
    refine ss_cons (s1_ifT (ET.to (et_w (ew_or (et_cmpR (ev_var 0 rfl (.inl rfl) rfl) ev_int (.ltI _ _)) fun _ => ew_or1 (et_cmpR (ev_var 1 rfl (.inl rfl) rfl) (ev_tup (ds := (["left", "right"] : List Str).map .str) (ea_cons ev_str (ea_cons ev_str ea_nil)) (by decide)) (.niT (.str z) (Py.strsT ["left", "right"]) (shaped_str hz) (shaped_strsT (by decide +kernel)) (congrArg (!·) (enc_str.any ["left", "right"] z)))))) ?_) (ss_one (s1_raise D.err (by rfl) ⟨rfl, .refl _⟩)))
    rw [htest n z hz, decide_eq_false h]
    rfl
  | ok n z h =>
    have hz : PyData.strOk z = true := by rcases h with rfl | rfl <;> decide +kernel
    refine ss_cons (s1_ifF (ET.to (et_w (ew_or (et_cmpR (ev_var 0 rfl (.inl rfl) rfl) ev_int (.ltI _ _)) fun _ => ew_or1 (et_cmpR (ev_var 1 rfl (.inl rfl) rfl) (ev_tup (ds := (["left", "right"] : List Str).map .str) (ea_cons ev_str (ea_cons ev_str ea_nil)) (by decide)) (.niT (.str z) (Py.strsT ["left", "right"]) (shaped_str hz) (shaped_strsT (by decide +kernel)) (congrArg (!·) (enc_str.any ["left", "right"] z)))))) ?_) (ss_nil ?_))
    · rw [htest n z hz, decide_eq_true ⟨by omega, h⟩]
      rfl
    · refine ss_one (s1_ret (evr_of (ev_tup (ea_cons (EV.to (ev_bin (ev_var 0 rfl (.inl rfl) rfl) (ev_if (W2 := []) (r := decide (z = "left")) (o := .ok (.int ((if z = "left" then 1 else 0 : Nat) : Int))) (et_cmpR (ev_var 1 rfl (.inl rfl) rfl) ev_str (.eqS _ _)) (fun hr => EV.to ev_int (by rw [if_pos (of_decide_eq_true hr)]; rfl)) fun hr => EV.to ev_int (by rw [if_neg (of_decide_eq_false hr)]; rfl)) (.addI _ _)) (by push_cast; rfl)) (ea_cons (EV.to (ev_bin (ev_var 0 rfl (.inl rfl) rfl) (ev_if (W2 := []) (r := decide (z = "right")) (o := .ok (.int ((if z = "right" then 1 else 0 : Nat) : Int))) (et_cmpR (ev_var 1 rfl (.inl rfl) rfl) ev_str (.eqS _ _)) (fun hr => EV.to ev_int (by rw [if_pos (of_decide_eq_true hr)]; rfl)) fun hr => EV.to ev_int (by rw [if_neg (of_decide_eq_false hr)]; rfl)) (.addI _ _)) (by push_cast; rfl)) ea_nil)) (Nat.le_of_ble_eq_true rfl)) ⟨rfl, .nil _⟩))
theorem ok_value {f : Addr} {fd : FuncData} {k : Nat} (D : Trk K mg TE) (Fu : Fun K "value_of" "value_of" st_value f fd) : FnOk P w K mg base (L2.CX P w) (k + 1) f fd ["card"] (spOf K T (SVal TE)) := by
  refine fn_def Fu sc_value (fun ds W o W' h => by cases h <;> rfl) fun cl E ds W o W' h => ?_
  obtain ⟨t1, hr⟩ := D.ranks
  obtain ⟨t2, hs⟩ := D.suits
  have key : ∀ z : Str, z.length ≤ 1000 → ∃ r, r = (!okc z) ∧ ET ⟨P, w, K, mg, base, ["card"], defScope st_value, k, fd.code, E, T, "value_of" ++ ".<locals>.", some cl⟩ (match defBody st_value with | .If c _ _ _ :: _ => c | _ => .Constant .none 0 ⟨0,0,0,0⟩) [some (.str z)] [] (.ok r) [] := by
    intro z hz
    have hl : z.length = z.cps.toList.length := by simp [Str.length]
    have hzl : z.length ≤ sizeLine := Nat.le_trans hz (by decide)
    have vc : ∀ {G : CF} {p : Pos}, G.N = [("card" : Str)] → G.sc = defScope st_value → EV G (.Name "card" p) [some (.str z)] [] (.ok (.str z)) [] := fun {G p} h1 h2 => ev_var 0 (by rw [h1]; rfl) (by rw [h2]; exact .inl rfl) rfl
    by_cases h2 : z.cps.toList.length = 2
    · obtain ⟨a, b, e⟩ : ∃ a b, z.cps.toList = [a, b] := by
        match z.cps.toList, h2 with
        | [a, b], _ => exact ⟨a, b, rfl⟩
      refine ⟨_, ?_, et_w (ew_or (et_cmpR (ev_len (by rfl) D.len (vc rfl rfl) (.str z hzl)) ev_int (.neI _ _)) fun _ => ew_or (et_cmpR (ev_ix (vc rfl rfl) ev_int (.str hzl (c := a) (by rw [e]; rfl))) (ev_globS (by rfl) hr) (.niS a _)) fun _ => ew_or1 (et_cmpR (ev_ix (vc rfl rfl) ev_int (.str hzl (c := b) (by rw [e]; rfl))) (ev_globS (by rfl) hs) (.niS b _)))⟩
      unfold okc
      rw [e, hl, h2]
      simp [ranksL, suitsL]
    · refine ⟨true, ?_, et_w (ew_orT ?_)⟩
      · unfold okc
        split
        · rename_i a b e
          rw [e] at h2
          exact absurd rfl h2
        · rfl
      · have h3 : (!decide ((z.length : Int) = 2)) = true := by
          rw [hl, decide_eq_false (fun q => h2 (by omega))]
          rfl
        exact ET.to (et_cmpR (ev_len (by rfl) D.len (vc rfl rfl) (.str z hzl)) ev_int (.neI _ _)) h3
  cases h with
  | ok z h =>
    obtain ⟨a, b, ez, h1, h2⟩ := okc_two h
    have hl := okc_len h
    have hzl : z.length ≤ sizeLine := Nat.le_trans (by omega : z.length ≤ 1000) (by decide)
    obtain ⟨r1, o1⟩ := head_rest (rk_occ a h1)
    obtain ⟨r2, o2⟩ := head_rest (su_occ b h2)
    obtain ⟨r, e, q⟩ := key z (by omega)
    rw [h] at e
    subst e
    refine ss_cons (s1_ifF q (ss_nil ?_))
    refine ss_one (s1_ret (evr_of (EV.to (ev_tup (ea_cons (ev_bin (ev_sindex (ev_globS (by rfl) hr) (ev_ix (ev_var 0 rfl (.inl rfl) rfl) ev_int (.str hzl (c := a) (by rw [ez]; rfl))) o1) ev_int (.addI _ _)) (ea_cons (ev_sindex (ev_globS (by rfl) hs) (ev_ix (ev_var 0 rfl (.inl rfl) rfl) ev_int (.str hzl (c := b) (by rw [ez]; rfl))) o2) ea_nil)) (Nat.le_of_ble_eq_true rfl)) ?_) ⟨rfl, .nil _⟩))
    unfold rkN suN
    rw [ez]
    rfl
  | er z hz h =>
    obtain ⟨r, e, q⟩ := key z hz
    rw [h] at e
    subst e
    refine ss_cons (s1_ifT q (ss_one (s1_raise D.err (by rfl) ⟨rfl, .refl _⟩)))
end
end S3
set_option Elab.async false
set_option linter.all false
set_option maxRecDepth 100000
set_option maxHeartbeats 2000000
set_option autoImplicit false
namespace S3
open PySem PySem.Spec PySem.W PyProof.Rows L2 Sh
theorem sc_three : FnScope ["cards", "answers", "found", "answer", "heaps", "others", "place"] ["cards", "answers"] (defScope st_three) := ⟨rfl, rfl, rfl, by decide +kernel, rfl, by decide +kernel, by decide +kernel⟩
theorem sc_ans : FnScope ["cards", "card", "times", "found", "turn", "heaps", "place"] ["cards", "card", "times"] (defScope st_ans) := ⟨rfl, rfl, rfl, by decide +kernel, rfl, by decide +kernel, by decide +kernel⟩
/-- letters as data -/
theorem let_eq (w : List Nat) : (w.map fun c => D.str ⟨#[c]⟩).filterMap (fun x => if !decide (strD x = " ") then some x else none) = (w.filter fun c => decide (c ≠ 32)).map fun c => D.str ⟨#[c]⟩ := by
  induction w with
  | nil => rfl
  | cons c w ih =>
    have e1 : ((if !decide (strD (D.str ⟨#[c]⟩) = " ") then some (D.str ⟨#[c]⟩) else none) : Option D) = if c ≠ 32 then some (D.str ⟨#[c]⟩) else none := by
      have : decide (strD (D.str ⟨#[c]⟩) = " ") = decide (c = 32) := by
        show decide ((⟨#[c]⟩ : Str) = " ") = _
        rw [show (" " : Str) = ⟨#[32]⟩ by decide +kernel]
        exact sign_eq c 32
      rw [this]
      by_cases h : c = 32 <;> simp [h]
    rw [List.map_cons, List.filterMap_cons, List.filter_cons, ih, e1]
    by_cases h : c = 32 <;> simp [h]
/-- heaps -/
def othersN (a : Nat) : Nat × Nat := if a = 0 then (1, 2) else if a = 1 then (0, 2) else (0, 1)
def heapS {α : Type} (ds : List α) (a : Nat) : List α := StepS.strided ds (othersN a).1 3 ++ StepS.strided ds a 3 ++ StepS.strided ds (othersN a).2 3
def threeS {α : Type} (ds : List α) (as : List Nat) : List α := as.foldl heapS ds
theorem strided_mem {α : Type} {xs : List α} {a c : Nat} {x : α} (h : x ∈ StepS.strided xs a c) : x ∈ xs := by
  unfold StepS.strided at h
  obtain ⟨m, _, h⟩ := List.mem_filterMap.mp h
  exact List.mem_of_getElem? h
theorem strided_seven {α : Type} (xs : List α) (h : xs.length = 21) (a : Nat) (ha : a < 3) : (StepS.strided xs a 3).length = 7 := by
  unfold StepS.strided
  have e : (xs.length - a + 3 - 1) / 3 = 7 := by omega
  rw [e]
  have : ∀ m ∈ List.range 7, ∃ x, xs[a + m * 3]? = some x := fun m hm => by
    have := List.mem_range.mp hm
    exact ⟨_, List.getElem?_eq_getElem (by omega)⟩
  have gen : ∀ l : List Nat, (∀ m ∈ l, ∃ x, xs[a + m * 3]? = some x) → (l.filterMap fun m => xs[a + m * 3]?).length = l.length := fun l => by
    induction l with
    | nil => intro _; rfl
    | cons m l ih =>
      intro hl
      obtain ⟨x, hx⟩ := hl m List.mem_cons_self
      rw [List.filterMap_cons, hx, List.length_cons, List.length_cons, ih fun y hy => hl y (List.mem_cons_of_mem _ hy)]
  rw [gen _ this, List.length_range]
theorem heapS_len {α : Type} (xs : List α) (h : xs.length = 21) (a : Nat) (ha : a < 3) : (heapS xs a).length = 21 := by
  have h1 : (othersN a).1 < 3 ∧ (othersN a).2 < 3 := by
    unfold othersN
    split
    · decide
    · split <;> decide
  unfold heapS
  rw [List.length_append, List.length_append, strided_seven xs h _ h1.1, strided_seven xs h _ ha, strided_seven xs h _ h1.2]
theorem heapS_mem {α : Type} {xs : List α} {a : Nat} {x : α} (h : x ∈ heapS xs a) : x ∈ xs := by
  unfold heapS at h
  rw [List.mem_append, List.mem_append] at h
  rcases h with (h | h) | h <;> exact strided_mem h
theorem three_snoc {α : Type} (ds : List α) (as : List Nat) (a : Nat) : threeS ds (as ++ [a]) = heapS (threeS ds as) a := by
  unfold threeS
  rw [List.foldl_append]
  rfl
theorem three_len {α : Type} {ds : List α} (h : ds.length = 21) : ∀ (as : List Nat), (∀ a ∈ as, a < 3) → (threeS ds as).length = 21 := fun as => by
  induction as generalizing ds with
  | nil => intro _; exact h
  | cons a as ih =>
    intro ha
    exact ih (heapS_len ds h a (ha a List.mem_cons_self)) fun b hb => ha b (List.mem_cons_of_mem _ hb)
theorem three_mem {α : Type} {x : α} : ∀ (as : List Nat) {ds : List α}, x ∈ threeS ds as → x ∈ ds
  | [], ds, h => h
  | a :: as, ds, h => heapS_mem (three_mem as (ds := heapS ds a) h)
def natsOf (ns : List Nat) : List Int := ns.map fun (n : Nat) => (n : Int)
inductive SThree (TE : Addr) : Law
  | ok (d d2 : D) (ds : List D) (as : List Nat) (hd : SeqF d ds) (hd2 : SeqF d2 ((natsOf as).map .int)) (h1 : ds.length = 21) (h2 : ∀ a ∈ as, a < 3) (hz : as.length ≤ 1000) : SThree TE [d, d2] [] (.ok (.tup (threeS ds as))) []
  | er (d d2 : D) (ds : List D) (as : List Nat) (hd : SeqF d ds) (hd2 : SeqF d2 ((natsOf as).map .int)) (hz : ds.length ≤ 1000) (hz2 : as.length ≤ 1000) (h : ¬ (ds.length = 21 ∧ ∀ a ∈ as, a < 3)) : SThree TE [d, d2] [] (.er TE) []
inductive SMagic (TE SE : Addr) : Law
  | ok (d : D) (ds : List D) (m : Nat) (z : Str) (hd : SeqF d ds) (hz : ds.length ≤ 1000) (hz2 : z.length ≤ 1000) (h1 : m ≤ ds.length) (h2 : z.cps.toList.count 108 = m) (h3 : z.length = ds.length) (h4 : wordOk z.cps.toList) : SMagic TE SE [d, .int (m : Nat), .str z] [] (.ok (.tup (riffP .non ((ds.take m).reverse ++ ds.drop m) z.cps.toList))) []
  | er (d : D) (ds : List D) (m : Int) (z : Str) (hd : SeqF d ds) (hz : ds.length ≤ 1000) (hz2 : z.length ≤ 1000) (h : ¬ (0 ≤ m ∧ m ≤ ds.length ∧ (z.cps.toList.count 108 : Int) = m)) : SMagic TE SE [d, .int m, .str z] [] (.er TE) []
  | erS (d : D) (ds : List D) (m : Nat) (z : Str) (hd : SeqF d ds) (hz : ds.length ≤ 1000) (hz2 : z.length ≤ 1000) (h1 : m ≤ ds.length) (h2 : z.cps.toList.count 108 = m) (h3 : ¬ (z.length = ds.length ∧ wordOk z.cps.toList)) : SMagic TE SE [d, .int (m : Nat), .str z] [] (.er SE) []
section
variable {P : Program} {w : World} {K : PySem.W.Frag} {mg : Str → Option Value} {base : Heap} {T : Tb} {TE SE CD : Addr}
theorem ok_spelled {f : Addr} {fd : FuncData} {k : Nat} (D : Trk K mg TE) (Fu : Fun K "spelled" "spelled" st_spelled f fd) : FnOk P w K mg base (L2.CX P w) (k + 1) f fd ["cards", "text"] (spOf K T (SSpell TE)) := by
  refine fn_def Fu sc_spelled (fun ds W o W' h => by cases h <;> rfl) fun cl E ds W o W' h => ?_
  obtain ⟨d, ds', z, hd, hz, hz2, hs, e1, e2, e3, hout⟩ : ∃ d ds' z, SeqF d ds' ∧ ds'.length ≤ 1000 ∧ z.length ≤ 1000 ∧ PyData.strOk z = true ∧ ds = [d, .str z] ∧ W = [] ∧ W' = [] ∧ (((lettersOf z = [] ∨ ds' = []) ∧ o = .er TE) ∨ (Row ds' ∧ lettersOf z ≠ [] ∧ ∃ x r, turned ds' ((lettersOf z).length - 1) = x :: r ∧ o = .ok (.tup [x, .tup r]))) := by
    cases h with
    | ok d ds z x r hd hp hz hz2 hs h1 e => exact ⟨d, ds, z, hd, hz, hz2, hs, rfl, rfl, rfl, .inr ⟨hp, h1, x, r, e, rfl⟩⟩
    | er d ds z hd hz hz2 hs h => exact ⟨d, ds, z, hd, hz, hz2, hs, rfl, rfl, rfl, .inl ⟨h, rfl⟩⟩
  subst e1 e2 e3
  have hll : (lettersOf z).length ≤ 1000 := Nat.le_trans (List.length_filter_le _ _) (by rw [← len_cps]; exact hz2)
  refine ss_cons (s1_setLcF (own := [("sign", 5)]) 2 (fun x => if !decide (strD x = " ") then some x else none) sc_spelled.nd rfl rfl rfl rfl (by rfl) (by rfl) (ei_str (ev_var 1 rfl (.inl rfl) rfl)) trivial (fun x hx => ?_) ?_ ?_)
  · obtain ⟨c, hc, rfl⟩ := List.mem_map.mp hx
    exact turn_if (r := !decide (strD (Sh.D.str ⟨#[c]⟩) = " ")) (eg_name (fun X h => h) 5 rfl (.inl (by rfl))) (by decide) (et_cmpR (ev_var 5 rfl (.inl (by rfl)) rfl) ev_str (.neS _ _)) fun _ => ev_var 5 rfl (.inl (by rfl)) rfl
  · rw [List.length_map, ← len_cps]
    exact Nat.lt_of_le_of_lt hz2 (by decide)
  rw [let_eq]
  show SS _ _ (List.set _ 2 (some (.lst ((lettersOf z).map fun c => Sh.D.str ⟨#[c]⟩)))) _ _
  have hcmp : ∀ (W : OW), CmpR W .Eq (.lst ((lettersOf z).map fun c => Sh.D.str ⟨#[c]⟩)) (.lst []) (decide (lettersOf z = [])) := fun W => by
    have e : ((lettersOf z).map fun c => Sh.D.str ⟨#[c]⟩) = ((lettersOf z).map fun c => (⟨#[c]⟩ : Str)).map .str := by rw [List.map_map]; rfl
    rw [e]
    refine .eqD (Py.strsL _) (Py.strsL []) (shaped_strsL fun y hy => ?_) (shaped_strsL (by simp)) (by rw [enc_str.list.eq]; cases lettersOf z <;> rfl)
    obtain ⟨c, hc, rfl⟩ := List.mem_map.mp hy
    have hc := (List.mem_filter.mp hc).1
    unfold PyData.strOk at hs ⊢
    rw [← Array.all_toList, List.all_eq_true] at hs ⊢
    intro x hx
    have : x = c := by simpa using hx
    rw [this]
    exact hs c hc
  generalize lettersOf z = ls at hll hcmp hout ⊢
  refine ss_cons (s1_if (r := decide (ls = []) || decide (ds' = [])) (ET.to (et_w (ew_or (et_cmpR (ev_var 2 rfl (.inl rfl) rfl) (EN.ev (en_lst ea_nil (by decide))) (hcmp _)) fun _ => ew_or1 (et_cmpR (ev_len (by rfl) D.len (ev_var 0 rfl (.inl rfl) rfl) (hd.len _)) ev_int (.eqI _ _)))) ?_) (fun hr => ?_) fun hr => ss_nil ?_)
  · refine congrArg (_ || ·) (decide_eq_decide.mpr ?_)
    cases ds' with
    | nil => simp
    | cons a r => simp; omega
  · refine ss_one (s1_raise D.err (by rfl) ⟨?_, .nil _⟩)
    rcases hout with ⟨_, q⟩ | ⟨_, h1, x, r, e, _⟩
    · exact q
    · rcases (Bool.or_eq_true _ _).mp hr with q | q
      · exact absurd (of_decide_eq_true q) h1
      · have := turned_len ds' (ls.length - 1)
        rw [e, of_decide_eq_true q] at this
        cases this
  · obtain ⟨r1, r2⟩ := Bool.or_eq_false_iff.mp hr
    have r1 : ls ≠ [] := of_decide_eq_false r1
    have r2 : ds' ≠ [] := of_decide_eq_false r2
    obtain ⟨hp, x, r, e, rfl⟩ : Row ds' ∧ ∃ x r, turned ds' (ls.length - 1) = x :: r ∧ o = .ok (.tup [x, .tup r]) := by
      rcases hout with ⟨q | q, _⟩ | ⟨hp, _, x, r, e, q⟩
      · exact absurd q r1
      · exact absurd q r2
      · exact ⟨hp, x, r, e, q⟩
    refine ss_cons (s1_set 3 rfl (.inl rfl) (evr_of (EN.ev (en_list (by rfl) D.list (ev_var 0 rfl (.inl rfl) rfl) (hd.q _))) ?_))
    have hdrop : (ls.map fun c => Sh.D.str ⟨#[c]⟩).drop 1 = (ls.drop 1).map fun c => Sh.D.str ⟨#[c]⟩ := by rw [List.map_drop]
    refine ss_cons (s1_for (ei_list (EN.ev (EN.to (en_slice (ev_var 2 rfl (.inl rfl) rfl) (eo_some ev_int) eo_none .lst) ((cutD_from _ 1).trans hdrop))) .lst) (fun i Γ' W' => (∃ x4, Γ' = [some d, some (.str z), some (.lst (ls.map fun c => Sh.D.str ⟨#[c]⟩)), some (.lst (turned ds' i)), x4, none]) ∧ W' = []) ⟨⟨_, rfl⟩, rfl⟩ (fun _ _ _ _ => .lst) (fun i dd Γ' W' hdd hI => ?_) (fun Γ' W' hI => ?_))
    · obtain ⟨⟨x4, rfl⟩, rfl⟩ := hI
      have hl := turned_len ds' i
      refine ⟨_, _, eg_name (fun X h => h.toG) 4 rfl (.inl rfl) (fun l e => by
        rw [List.getElem?_map] at hdd
        cases q : (ls.drop 1)[i]? with
        | none => rw [q] at hdd; cases hdd
        | some c => rw [q] at hdd; cases hdd; cases e), ss_one (s1_set 3 rfl (.inl rfl) (evr_of (EN.ev (EN.to (en_cat (EN.ev (EN.to (en_slice (ev_var 3 rfl (.inl rfl) rfl) (eo_some ev_int) eo_none .lst) (cutD_from _ 1))) (EN.ev (EN.to (en_slice (ev_var 3 rfl (.inl rfl) rfl) eo_none (eo_some ev_int) .lst) (cutD_to _ 1))) .lst .lst ?_) (turned_succ ds' i).symm)) ⟨⟨_, rfl⟩, rfl⟩))⟩
      rw [List.length_drop, List.length_take, hl]
      exact Nat.le_trans (show _ ≤ 2000 by omega) (by decide)
    · obtain ⟨⟨x4, rfl⟩, rfl⟩ := hI
      rw [List.length_map, List.length_drop, e]
      exact ss_one (s1_ret (evr_of (ev_tup (ea_cons (ev_ix (ev_var 3 rfl (.inl rfl) rfl) ev_int (.lst .lst (atI_nat (j := 0) rfl))) (ea_cons (ev_tupleSeq (by rfl) D.tuple (EN.ev (EN.to (en_slice (ev_var 3 rfl (.inl rfl) rfl) (eo_some ev_int) eo_none .lst) (cutD_from _ 1))) .lst) ea_nil)) (Nat.le_of_ble_eq_true rfl)) ⟨rfl, .nil _⟩))
end
end S3
set_option Elab.async false
set_option linter.all false
set_option maxRecDepth 100000
set_option maxHeartbeats 2000000
set_option autoImplicit false
namespace S3
open PySem PySem.Spec PySem.W PyProof.Rows L2 Sh
theorem any_three (as : List Nat) : ((as.map fun (a : Nat) => !decide (((a : Nat) : Int) ∈ ([0, 1, 2] : List Int))).any id) = !decide (∀ a ∈ as, a < 3) := by
  have hm : ∀ a : Nat, ((a : Int) ∈ ([0, 1, 2] : List Int)) ↔ a < 3 := fun a => by
    simp only [List.mem_cons, List.not_mem_nil, or_false]
    omega
  rw [Bool.eq_iff_iff, List.any_eq_true, Bool.not_eq_true', decide_eq_false_iff_not]
  constructor
  · rintro ⟨b, hb, hb2⟩ h
    obtain ⟨n, hn, rfl⟩ := List.mem_map.mp hb
    have := (hm n).mpr (h n hn)
    simp only [id, this, decide_true, Bool.not_true] at hb2
    cases hb2
  · intro h
    have ⟨n, hn⟩ := Classical.not_forall.mp h
    have ⟨h1, h2⟩ := Classical.not_imp.mp hn
    refine ⟨_, List.mem_map_of_mem h1, ?_⟩
    have : ¬ ((n : Int) ∈ ([0, 1, 2] : List Int)) := fun q => h2 ((hm n).mp q)
    simp only [id, this, decide_false, Bool.not_false]
def oth (a : Nat) : D → Option D
  | .int p => if !decide (p = (a : Int)) then some (.int p) else none
  | _ => none
section
variable {P : Program} {w : World} {K : PySem.W.Frag} {mg : Str → Option Value} {base : Heap} {T : Tb} {TE SE CD : Addr}
theorem ok_magic {f : Addr} {fd : FuncData} {k : Nat} (D : Trk K mg TE) (hr : Fd P w K mg base T "riffled" k 2 (SRiff SE)) (Fu : Fun K "magic_riffle" "magic_riffle" st_magic f fd) : FnOk P w K mg base (L2.CX P w) (k + 1) f fd ["cards", "many", "word"] (spOf K T (SMagic TE SE)) := by
  refine fn_def Fu sc_magic (fun ds W o W' h => by cases h <;> rfl) fun cl E ds W o W' h => ?_
  obtain ⟨d, ds', m, z, hd, hz, hz2, e1, e2, e3, hout⟩ : ∃ d ds' m z, SeqF d ds' ∧ ds'.length ≤ 1000 ∧ z.length ≤ 1000 ∧ ds = [d, .int m, .str z] ∧ W = [] ∧ W' = [] ∧ ((¬ (0 ≤ m ∧ m ≤ ds'.length ∧ (z.cps.toList.count 108 : Int) = m) ∧ o = .er TE) ∨ ∃ n : Nat, m = n ∧ n ≤ ds'.length ∧ z.cps.toList.count 108 = n ∧ SRiff SE [.tup ((ds'.take n).reverse ++ ds'.drop n), .str z] [] o []) := by
    cases h with
    | er d ds m z hd hz hz2 h => exact ⟨d, ds, m, z, hd, hz, hz2, rfl, rfl, rfl, .inl ⟨h, rfl⟩⟩
    | ok d ds m z hd hz hz2 h1 h2 h3 h4 => exact ⟨d, ds, m, z, hd, hz, hz2, rfl, rfl, rfl, .inr ⟨m, rfl, h1, h2, .ok _ _ z .tup (by simp; omega) hz2 (by simp; omega) h4⟩⟩
    | erS d ds m z hd hz hz2 h1 h2 h3 => exact ⟨d, ds, m, z, hd, hz, hz2, rfl, rfl, rfl, .inr ⟨m, rfl, h1, h2, .er _ _ z .tup (by simp; omega) hz2 fun q => h3 ⟨by have := q.1; simp at this; omega, q.2⟩⟩⟩
  subst e1 e2 e3
  refine ss_cons (s1_if (r := !decide (0 ≤ m ∧ m ≤ ds'.length ∧ (z.cps.toList.count 108 : Int) = m)) (ET.to (et_w (ew_or (et_not (et_chain ev_int (ev_var 1 rfl (.inl rfl) rfl) (.leI _ _) (fun _ => ev_len (by rfl) D.len (ev_var 0 rfl (.inl rfl) rfl) (hd.len _)) (fun _ => .leI _ _))) fun _ => ew_or1 (et_cmpR (ev_len (by rfl) D.len (EN.ev (en_lcF (own := [("sign", 3)]) (fun x => if decide (strD x = "l") then some (Sh.D.int 1) else none) sc_magic.nd (by rfl) (ei_str (ev_var 2 rfl (.inl rfl) rfl)) trivial (fun x hx => ?_) ?_)) (.lst .lst)) (ev_var 1 rfl (.inl rfl) rfl) (.neI _ _)))) ?_) (fun hr2 => ?_) fun hr2 => ss_nil ?_)
  · obtain ⟨c, hc, rfl⟩ := List.mem_map.mp hx
    exact turn_if (r := decide (strD (Sh.D.str ⟨#[c]⟩) = "l")) (eg_name (fun X h => h) 3 rfl (.inl (by rfl))) (by decide) (et_cmpR (ev_var 3 rfl (.inl (by rfl)) rfl) ev_str (.eqS _ _)) fun _ => ev_int
  · rw [List.length_map, ← len_cps]
    exact Nat.lt_of_le_of_lt hz2 (by decide)
  · rw [count_signs, ← Bool.decide_and]
    by_cases h1 : 0 ≤ m ∧ m ≤ ds'.length
    · rw [decide_eq_true h1]
      show (false || !decide _) = _
      rw [Bool.false_or]
      exact congrArg (!·) (decide_eq_decide.mpr ⟨fun q => ⟨h1.1, h1.2, q⟩, fun q => q.2.2⟩)
    · have h3 : ¬ (0 ≤ m ∧ m ≤ ds'.length ∧ (z.cps.toList.count 108 : Int) = m) := fun q => h1 ⟨q.1, q.2.1⟩
      rw [decide_eq_false h1, decide_eq_false h3]
      rfl
  · have hn : ¬ (0 ≤ m ∧ m ≤ ds'.length ∧ (z.cps.toList.count 108 : Int) = m) := of_decide_eq_false (by simpa only [Bool.not_eq_true'] using hr2)
    refine ss_one (s1_raise D.err (by rfl) ⟨?_, .nil _⟩)
    rcases hout with ⟨_, q⟩ | ⟨n, rfl, h1, h2, _⟩
    · exact q
    · exact absurd ⟨by omega, by omega, by omega⟩ hn
  · have hn : 0 ≤ m ∧ m ≤ ds'.length ∧ (z.cps.toList.count 108 : Int) = m := of_decide_eq_true (by simpa only [Bool.not_eq_false'] using hr2)
    obtain ⟨n, rfl, h1, h2, hri⟩ := hout.resolve_left fun q => q.1 hn
    have hsz : (ds'.take n).length ≤ sizeLine := by rw [List.length_take]; exact Nat.le_trans (show _ ≤ 1000 by omega) (by decide)
    cases o with
    | ok dd =>
      exact ss_one (s1_ret (evr_of (ev_pure hr (Nat.le_refl _) (by rfl) (ea_cons (ev_bin (ev_tupleSeq (by rfl) D.tuple (ev_revQ (EV.to (ev_sliceQ (ev_var 0 rfl (.inl rfl) rfl) eo_none (eo_some (ev_var 1 rfl (.inl rfl) rfl)) hd) (congrArg (likeD d) (cutD_to _ n))) eo_neg1 (hd.like _) hsz) ((hd.like _).like _)) (ev_tupleSeq (by rfl) D.tuple (EV.to (ev_sliceQ (ev_var 0 rfl (.inl rfl) rfl) (eo_some (ev_var 1 rfl (.inl rfl) rfl)) eo_none hd) (congrArg (likeD d) (cutD_from _ n))) (hd.like _)) (.addT _ _ (by simp; exact Nat.le_trans (show _ ≤ 2000 by omega) (by decide)))) (ea_cons (ev_var 2 rfl (.inl rfl) rfl) ea_nil)) hri) ⟨rfl, .nil _⟩))
    | er c =>
      exact ss_one (s1_retE (ev_pure hr (Nat.le_refl _) (by rfl) (ea_cons (ev_bin (ev_tupleSeq (by rfl) D.tuple (ev_revQ (EV.to (ev_sliceQ (ev_var 0 rfl (.inl rfl) rfl) eo_none (eo_some (ev_var 1 rfl (.inl rfl) rfl)) hd) (congrArg (likeD d) (cutD_to _ n))) eo_neg1 (hd.like _) hsz) ((hd.like _).like _)) (ev_tupleSeq (by rfl) D.tuple (EV.to (ev_sliceQ (ev_var 0 rfl (.inl rfl) rfl) (eo_some (ev_var 1 rfl (.inl rfl) rfl)) eo_none hd) (congrArg (likeD d) (cutD_from _ n))) (hd.like _)) (.addT _ _ (by simp; exact Nat.le_trans (show _ ≤ 2000 by omega) (by decide)))) (ea_cons (ev_var 2 rfl (.inl rfl) rfl) ea_nil)) hri) ⟨rfl, .nil _⟩)
end
end S3
set_option Elab.async false
set_option linter.all false
set_option maxRecDepth 100000
set_option maxHeartbeats 2000000
set_option autoImplicit false
namespace S3
open PySem PySem.Spec PySem.W PyProof.Rows L2 Sh
def tupsL : D → List D
  | .tup l => l
  | _ => []
def othF (cur : List D) (a : Nat) (x : D) : Option D := if !decide (Sh.intD x = (a : Int)) then some (.tup (StepS.strided cur (Sh.intD x).toNat 3)) else none
theorem oth_eq (cur : List D) {a : Nat} (h : a < 3) : (rngD 0 3).filterMap (othF cur a) = [.tup (StepS.strided cur (othersN a).1 3), .tup (StepS.strided cur (othersN a).2 3)] := by
  match a, h with
  | 0, _ => rfl
  | 1, _ => rfl
  | 2, _ => rfl
theorem othersN_lt (a : Nat) : (othersN a).1 < 3 ∧ (othersN a).2 < 3 := by
  unfold othersN
  split
  · decide
  · split <;> decide
theorem natsOf_get {as : List Nat} {i : Nat} {d : D} (h : ((natsOf as).map D.int)[i]? = some d) : ∃ a, as[i]? = some a ∧ d = .int (a : Nat) := by
  unfold natsOf at h
  rw [List.getElem?_map, List.getElem?_map] at h
  cases e : as[i]? with
  | none => rw [e] at h; cases h
  | some a => rw [e] at h; cases h; exact ⟨a, rfl, rfl⟩
section
variable {P : Program} {w : World} {K : PySem.W.Frag} {mg : Str → Option Value} {base : Heap} {T : Tb} {TE SE CD : Addr}
theorem ok_three {f : Addr} {fd : FuncData} {k : Nat} {c P0 : Addr} (D : Trk K mg TE) (hde : Fd P w K mg base T "dealt" k 2 (SDealt CD)) (hga : Fd P w K mg base T "gathered" k 1 SGath) (tab : fd.code = .ref c ∧ GxR.TabB base mg c P0 ∧ P0 ∈ T.g ∧ P0 ∉ T.l.map (·.1)) (hk : 3 ≤ k) (Fu : Fun K "three_heaps" "three_heaps" st_three f fd) : FnOk P w K mg base (L2.CX P w) (k + 1) f fd ["cards", "answers"] (spOf K T (SThree TE)) := by
  refine fn_def Fu sc_three (fun ds W o W' h => by cases h <;> rfl) fun cl E ds W o W' h => ?_
  obtain ⟨d, d2, ds', as, hd, hd2, hz, hz2, e1, e2, e3, hout⟩ : ∃ d d2 ds' as, SeqF d ds' ∧ SeqF d2 ((natsOf as).map Sh.D.int) ∧ ds'.length ≤ 1000 ∧ as.length ≤ 1000 ∧ ds = [d, d2] ∧ W = [] ∧ W' = [] ∧ ((¬ (ds'.length = 21 ∧ ∀ a ∈ as, a < 3) ∧ o = .er TE) ∨ (ds'.length = 21 ∧ (∀ a ∈ as, a < 3) ∧ o = .ok (.tup (threeS ds' as)))) := by
    cases h with
    | ok d d2 ds as hd hd2 h1 h2 hz => exact ⟨d, d2, ds, as, hd, hd2, by omega, hz, rfl, rfl, rfl, .inr ⟨h1, h2, rfl⟩⟩
    | er d d2 ds as hd hd2 hz hz2 h => exact ⟨d, d2, ds, as, hd, hd2, hz, hz2, rfl, rfl, rfl, .inl ⟨h, rfl⟩⟩
  subst e1 e2 e3
  refine ss_cons (s1_if (r := !decide (ds'.length = 21 ∧ ∀ a ∈ as, a < 3)) (ET.to (et_w (ew_or (et_cmpR (ev_len (by rfl) D.len (ev_var 0 rfl (.inl rfl) rfl) (hd.len _)) ev_int (.neI _ _)) fun _ => ew_or1 (et_val (ev_anyG (bs := as.map fun (a : Nat) => !decide (((a : Nat) : Int) ∈ ([0, 1, 2] : List Int))) (by rfl) D.any (GenH.to (gen_hM (own := [("answer", 3)]) (fun x => Sh.D.bl (!decide (Sh.intD x ∈ ([0, 1, 2] : List Int)))) ⟨c, P0, tab⟩ hk sc_three.nd (by rfl) ⟨rfl, by decide +kernel, by rfl⟩ (ei_seq (ev_var 1 rfl (.inl rfl) rfl) hd2) trivial (fun cd x hx => ?_)) ?_))))) ?_) (fun hr => ?_) fun hr => ss_nil ?_)
  · obtain ⟨j, hj, rfl⟩ := List.mem_map.mp hx
    exact turn_map (eg_name (fun X h => h) 3 rfl (.inl (by rfl))) (by decide) (ev_cmpR (ev_var 3 rfl (.inl (by rfl)) rfl) (ev_tup (ds := ([0, 1, 2] : List Int).map .int) (ea_cons ev_int (ea_cons ev_int (ea_cons ev_int ea_nil))) (by decide)) (.niT (.int _) (Py.intsT [0, 1, 2]) (enc_int.shaped (by decide) trivial) (enc_int.tup.shaped (by decide) (fun _ _ => trivial)) (congrArg (!·) (enc_int.any [0, 1, 2] j))))
  · unfold natsOf
    rw [List.map_map, List.map_map, List.map_map]
    rfl
  · rw [any_three, Bool.decide_and, Bool.not_and]
    refine congrArg (· || _) (congrArg (!·) (decide_eq_decide.mpr (by omega)))
  · have hn : ¬ (ds'.length = 21 ∧ ∀ a ∈ as, a < 3) := of_decide_eq_false (by simpa only [Bool.not_eq_true'] using hr)
    refine ss_one (s1_raise D.err (by rfl) ⟨?_, .nil _⟩)
    rcases hout with ⟨_, q⟩ | ⟨h1, h2, _⟩
    · exact q
    · exact absurd ⟨h1, h2⟩ hn
  · have hn : ds'.length = 21 ∧ ∀ a ∈ as, a < 3 := of_decide_eq_true (by simpa only [Bool.not_eq_false'] using hr)
    obtain ⟨h1, h2, rfl⟩ := hout.resolve_left fun q => q.1 hn
    refine ss_cons (s1_set 2 rfl (.inl rfl) (evr_of (ev_tupleSeq (by rfl) D.tuple (ev_var 0 rfl (.inl rfl) rfl) hd) ?_))
    refine ss_cons (s1_for (ei_seq (ev_var 1 rfl (.inl rfl) rfl) hd2) (fun i Γ' W' => (∃ x3 x4 x5, Γ' = [some d, some d2, some (.tup (threeS ds' (as.take i))), x3, x4, x5, none]) ∧ W' = []) ⟨⟨_, _, _, rfl⟩, rfl⟩ (fun _ _ _ _ => trivial) (fun i dd Γ' W' hdd hI => ?_) (fun Γ' W' hI => ?_))
    · obtain ⟨⟨x3, x4, x5, rfl⟩, rfl⟩ := hI
      obtain ⟨a, ha, rfl⟩ := natsOf_get hdd
      have ha3 := h2 a (List.mem_of_getElem? ha)
      have hlen := three_len h1 (as.take i) fun b hb => h2 b (List.mem_of_mem_take hb)
      have hnext : threeS ds' (as.take (i + 1)) = heapS (threeS ds' (as.take i)) a := by rw [take_snoc ha, three_snoc]
      rw [hnext]
      generalize threeS ds' (as.take i) = cur at hlen ⊢
      obtain ⟨o1, o2⟩ := othersN_lt a
      have hhe : ∀ p : Nat, p < 3 → L2.atI ((List.range 3).map fun i => Sh.D.tup (StepS.strided cur i 3)) (p : Int) = some (.tup (StepS.strided cur p 3)) := fun p hp => atI_nat (by
        rw [List.getElem?_map, List.getElem?_range hp]
        rfl)
      refine ⟨_, _, eg_name (fun X h => h.toG) 3 rfl (.inr ⟨rfl, fun X h => h.fn _⟩), ?_⟩
      refine ss_cons (s1_set 4 rfl (.inr rfl) (evr_of (ev_pure hde (Nat.le_refl _) (by rfl) (ea_cons (ev_var 2 rfl (.inl rfl) rfl) (ea_cons ev_int ea_nil)) (.ok _ cur 3 .tup (by omega) (by decide) (by decide))) ?_))
      refine ss_cons (s1_setLcF (own := [("place", 6)]) 5 (othF cur a) sc_three.nd rfl rfl rfl rfl (by rfl) (by rfl) (ei_range1 (by rfl) D.range ev_int (by decide)) trivial (fun x hx => ?_) (by decide) ?_)
      · obtain ⟨p, hp, rfl⟩ := List.mem_map.mp hx
        have hp : p < 3 := List.mem_range.mp hp
        have hat := hhe p hp
        refine turn_if (r := !decide (Sh.intD (.int (0 + (p : Int))) = (a : Int))) (eg_name (fun X h => h) 6 rfl (.inl (by rfl))) (by decide) (et_cmpR (ev_var 6 rfl (.inl (by rfl)) rfl) (ev_var 3 rfl (.inr (.inl (by rfl))) rfl) (.neI _ _)) fun _ => ev_ix (ev_var 4 rfl (.inr (.inl (by rfl))) rfl) (ev_var 6 rfl (.inl (by rfl)) rfl) (.tup ?_)
        show L2.atI _ (0 + (p : Int)) = some (Sh.D.tup (StepS.strided cur (0 + (p : Int)).toNat 3))
        rw [Int.zero_add, Int.toNat_natCast]
        exact hat
      rw [show (3 : Int).toNat = 3 from rfl, oth_eq cur ha3]
      refine ss_one (s1_set 2 rfl (.inl rfl) (evr_of (EV.to (ev_pure hga (Nat.le_refl _) (by rfl) (ea_cons (ev_tup (ea_cons (ev_ix (ev_var 5 rfl (.inl rfl) rfl) ev_int (.lst .lst (atI_nat (j := 0) rfl))) (ea_cons (ev_ix (ev_var 4 rfl (.inr (.inl rfl)) rfl) (ev_var 3 rfl (.inr (.inl rfl)) rfl) (.tup (hhe a ha3))) (ea_cons (ev_ix (ev_var 5 rfl (.inl rfl) rfl) ev_int (.lst .lst (atI_nat (j := 1) rfl))) ea_nil))) (Nat.le_of_ble_eq_true rfl)) ea_nil) (.ok _ _ tupsL .tup (fun x hx => ?_) ?_)) (congrArg Sh.D.tup ?_)) ⟨⟨_, _, _, rfl⟩, rfl⟩))
      · simp only [List.mem_cons, List.not_mem_nil, or_false] at hx
        rcases hx with rfl | rfl | rfl <;> exact .tup
      · simp only [List.flatMap_cons, List.flatMap_nil, List.length_append, List.length_nil, tupsL]
        rw [strided_seven cur hlen _ o1, strided_seven cur hlen _ ha3, strided_seven cur hlen _ o2]
        decide
      · unfold heapS
        simp only [List.flatMap_cons, List.flatMap_nil, tupsL, List.append_nil, List.append_assoc]
    · obtain ⟨⟨x3, x4, x5, rfl⟩, rfl⟩ := hI
      rw [List.length_map, show (natsOf as).length = as.length by unfold natsOf; rw [List.length_map], List.take_length]
      exact ss_one (s1_ret (evr_of (ev_var 2 rfl (.inl rfl) rfl) ⟨rfl, .nil _⟩))
end
end S3
set_option Elab.async false
set_option linter.all false
set_option maxRecDepth 100000
set_option maxHeartbeats 2000000
set_option autoImplicit false
namespace S3
open PySem PySem.Spec PySem.W PyProof.Rows L2 Sh
/-- in which heap a card lies -/
def whichL (ds : List Str) (c : Str) : List Nat := (List.range 3).filter fun p => decide (c ∈ StepS.strided ds p 3)
def whichN (ds : List Str) (c : Str) : Nat := (whichL ds c).headD 0
def ansS (ds : List Str) (c : Str) : Nat → List Nat
  | 0 => []
  | i + 1 => ansS ds c i ++ [whichN (threeS ds (ansS ds c i)) c]
theorem ansS_len (ds : List Str) (c : Str) : ∀ i, (ansS ds c i).length = i
  | 0 => rfl
  | i + 1 => by rw [ansS, List.length_append, ansS_len ds c i]; rfl
theorem strided_has {ds : List Str} {c : Str} (h : c ∈ ds) (hl : ds.length = 21) : ∃ p, p < 3 ∧ c ∈ StepS.strided ds p 3 := by
  obtain ⟨i, hi⟩ := List.getElem?_of_mem h
  have hlt := (List.getElem?_eq_some_iff.mp hi).1
  refine ⟨i % 3, Nat.mod_lt _ (by decide), ?_⟩
  unfold StepS.strided
  refine List.mem_filterMap.mpr ⟨i / 3, List.mem_range.mpr (by omega), ?_⟩
  rw [show i % 3 + i / 3 * 3 = i by omega]
  exact hi
theorem which_ok {ds : List Str} {c : Str} (h : c ∈ ds) (hl : ds.length = 21) : whichN ds c < 3 ∧ c ∈ StepS.strided ds (whichN ds c) 3 ∧ ∃ r, whichL ds c = whichN ds c :: r := by
  obtain ⟨p, hp, hc⟩ := strided_has h hl
  have hm : p ∈ whichL ds c := List.mem_filter.mpr ⟨List.mem_range.mpr hp, decide_eq_true hc⟩
  unfold whichN
  cases e : whichL ds c with
  | nil => rw [e] at hm; cases hm
  | cons a r =>
    have ha : a ∈ whichL ds c := by rw [e]; exact List.mem_cons_self
    obtain ⟨h1, h2⟩ := List.mem_filter.mp ha
    exact ⟨List.mem_range.mp h1, of_decide_eq_true h2, r, rfl⟩
theorem heap_has {ds : List Str} {c : Str} (h : c ∈ ds) (hl : ds.length = 21) {a : Nat} (ha : a < 3) : c ∈ heapS ds a := by
  obtain ⟨p, hp, hc⟩ := strided_has h hl
  unfold heapS
  rw [List.mem_append, List.mem_append]
  have : p = (othersN a).1 ∨ p = a ∨ p = (othersN a).2 := by
    match a, ha with
    | 0, _ => show p = 1 ∨ p = 0 ∨ p = 2; omega
    | 1, _ => show p = 0 ∨ p = 1 ∨ p = 2; omega
    | 2, _ => show p = 0 ∨ p = 2 ∨ p = 1; omega
  rcases this with rfl | rfl | rfl
  · exact .inl (.inl hc)
  · exact .inl (.inr hc)
  · exact .inr hc
theorem three_has {c : Str} : ∀ (as : List Nat) {ds : List Str}, c ∈ ds → ds.length = 21 → (∀ a ∈ as, a < 3) → c ∈ threeS ds as
  | [], ds, h, _, _ => h
  | a :: as, ds, h, hl, ha => three_has as (heap_has h hl (ha a List.mem_cons_self)) (heapS_len ds hl a (ha a List.mem_cons_self)) fun b hb => ha b (List.mem_cons_of_mem _ hb)
theorem ansS_lt {ds : List Str} {c : Str} (h : c ∈ ds) (hl : ds.length = 21) : ∀ i, ∀ a ∈ ansS ds c i, a < 3
  | 0, a, ha => by cases ha
  | i + 1, a, ha => by
    have ih := ansS_lt h hl i
    rw [ansS] at ha
    rcases List.mem_append.mp ha with ha | ha
    · exact ih a ha
    · rw [List.mem_singleton.mp ha]
      exact (which_ok (three_has _ h hl ih) (three_len hl _ ih)).1
theorem strided_map {α β : Type} (f : α → β) (xs : List α) (a c : Nat) : StepS.strided (xs.map f) a c = (StepS.strided xs a c).map f := by
  unfold StepS.strided
  rw [List.length_map, List.map_filterMap]
  refine congrArg (fun g => List.filterMap g _) (funext fun m => ?_)
  rw [List.getElem?_map]
theorem heap_map {α β : Type} (f : α → β) (xs : List α) (a : Nat) : heapS (xs.map f) a = (heapS xs a).map f := by
  unfold heapS
  rw [strided_map, strided_map, strided_map, List.map_append, List.map_append]
theorem three_map {α β : Type} (f : α → β) : ∀ (as : List Nat) (xs : List α), threeS (xs.map f) as = (threeS xs as).map f
  | [], xs => rfl
  | a :: as, xs => by
    show threeS (heapS (xs.map f) a) as = (threeS (heapS xs a) as).map f
    rw [heap_map, three_map f as]
theorem natsOf_map (ns : List Nat) : (natsOf ns).map D.int = ns.map fun (n : Nat) => D.int (n : Nat) := by
  unfold natsOf
  rw [List.map_map]
  rfl
def wF (cur : List Str) (c : Str) (x : D) : Option D := if decide (c ∈ StepS.strided cur (Sh.intD x).toNat 3) then some x else none
theorem w_eq (cur : List Str) (c : Str) : (rngD 0 3).filterMap (wF cur c) = (natsOf (whichL cur c)).map D.int := by
  rw [natsOf_map]
  unfold rngD whichL
  rw [List.filterMap_map]
  generalize List.range 3 = l
  induction l with
  | nil => rfl
  | cons p l ih =>
    rw [List.filterMap_cons, List.filter_cons]
    have e : (wF cur c ∘ fun i : Nat => D.int (0 + (i : Int))) p = if decide (c ∈ StepS.strided cur p 3) then some (D.int (p : Nat)) else none := by
      show wF cur c (D.int (0 + (p : Int))) = _
      unfold wF
      rw [Int.zero_add]
      rfl
    rw [e, ih]
    by_cases h : c ∈ StepS.strided cur p 3
    · simp [h]
    · simp [h]
inductive SAns (TE : Addr) : Law
  | ok (d : D) (zs : List Str) (c : Str) (n : Nat) (hd : SeqF d (zs.map .str)) (hz : ∀ z ∈ zs, PyData.strOk z = true) (hc : PyData.strOk c = true) (h1 : zs.length = 21) (h2 : c ∈ zs) (hn : n ≤ 1000) : SAns TE [d, .str c, .int (n : Nat)] [] (.ok (.tup ((natsOf (ansS zs c n)).map .int))) []
  | er (d : D) (zs : List Str) (c : Str) (n : Int) (hd : SeqF d (zs.map .str)) (hz : ∀ z ∈ zs, PyData.strOk z = true) (hc : PyData.strOk c = true) (hl : zs.length ≤ 1000) (h : ¬ (zs.length = 21 ∧ c ∈ zs)) : SAns TE [d, .str c, .int n] [] (.er TE) []
section
variable {P : Program} {w : World} {K : PySem.W.Frag} {mg : Str → Option Value} {base : Heap} {T : Tb} {TE SE CD : Addr}
theorem ok_ans {f : Addr} {fd : FuncData} {k : Nat} (D : Trk K mg TE) (hde : Fd P w K mg base T "dealt" k 2 (SDealt CD)) (hth : Fd P w K mg base T "three_heaps" k 2 (SThree TE)) (Fu : Fun K "answers_for" "answers_for" st_ans f fd) : FnOk P w K mg base (L2.CX P w) (k + 1) f fd ["cards", "card", "times"] (spOf K T (SAns TE)) := by
  refine fn_def Fu sc_ans (fun ds W o W' h => by cases h <;> rfl) fun cl E ds W o W' h => ?_
  cases h with
  | er d zs c n hd hz hc hl h =>
    by_cases h21 : zs.length = 21
    · have hcz : c ∉ zs := fun q => h ⟨h21, q⟩
      refine ss_cons (s1_ifT (ET.to (et_cmpR (ev_var 1 rfl (.inr (.inl rfl)) rfl) (ev_pure hth (Nat.le_refl _) (by rfl) (ea_cons (ev_var 0 rfl (.inl rfl) rfl) (ea_cons (ev_tup (ds := (natsOf []).map .int) ea_nil (by decide)) ea_nil)) (.ok d _ (zs.map .str) [] hd .tup (by rw [List.length_map]; exact h21) (fun a ha => by cases ha) (by decide))) (.niT (.str c) (Py.strsT zs) (shaped_str hc) (shaped_strsT hz) (congrArg (!·) (enc_str.any zs c)))) (by simpa using hcz)) (ss_one (s1_raise D.err (by rfl) ⟨rfl, .refl _⟩)))
    · exact ss_cons (s1_ifE (et_cmpE2 (ev_var 1 rfl (.inr (.inl rfl)) rfl) (ev_pure hth (Nat.le_refl _) (by rfl) (ea_cons (ev_var 0 rfl (.inl rfl) rfl) (ea_cons (ev_tup (ds := (natsOf []).map .int) ea_nil (by decide)) ea_nil)) (.er d _ (zs.map .str) [] hd .tup (by rw [List.length_map]; exact hl) (by decide) (by rw [List.length_map]; exact fun q => h21 q.1)))) ⟨rfl, .refl _⟩)
  | ok d zs c n hd hz hc h1 h2 hn =>
    refine ss_cons (s1_ifF (ET.to (et_cmpR (ev_var 1 rfl (.inr (.inl rfl)) rfl) (ev_pure hth (Nat.le_refl _) (by rfl) (ea_cons (ev_var 0 rfl (.inl rfl) rfl) (ea_cons (ev_tup (ds := (natsOf []).map .int) ea_nil (by decide)) ea_nil)) (.ok d _ (zs.map .str) [] hd .tup (by rw [List.length_map]; exact h1) (fun a ha => by cases ha) (by decide))) (.niT (.str c) (Py.strsT zs) (shaped_str hc) (shaped_strsT hz) (congrArg (!·) (enc_str.any zs c)))) (by simpa using h2)) (ss_nil ?_))
    refine ss_cons (s1_set 3 rfl (.inl rfl) (evr_of (ev_tup ea_nil (by decide)) ?_))
    refine ss_cons (s1_for (ei_range1 (by rfl) D.range (ev_var 2 rfl (.inl rfl) rfl) (by constructor <;> omega)) (fun i Γ' W' => (∃ x4 x5, Γ' = [some d, some (.str c), some (.int (n : Nat)), some (.tup ((natsOf (ansS zs c i)).map .int)), x4, x5, none]) ∧ W' = []) ⟨⟨_, _, rfl⟩, rfl⟩ (fun _ _ _ _ => trivial) (fun i dd Γ' W' hdd hI => ?_) (fun Γ' W' hI => ?_))
    · obtain ⟨⟨x4, x5, rfl⟩, rfl⟩ := hI
      obtain ⟨hi, rfl⟩ := rngD_get hdd
      have hi : i < n := by omega
      have hlt := ansS_lt h2 h1 i
      have hlen := three_len h1 (ansS zs c i) hlt
      have hin := three_has (ansS zs c i) h2 h1 hlt
      have hall : ∀ z ∈ threeS zs (ansS zs c i), PyData.strOk z = true := fun z hz' => hz z (three_mem _ hz')
      have hal := ansS_len zs c i
      have hth2 := SThree.ok (TE := TE) d (.tup ((natsOf (ansS zs c i)).map .int)) (zs.map .str) (ansS zs c i) hd .tup (by rw [List.length_map]; exact h1) hlt (by omega)
      rw [three_map] at hth2
      have hans : ansS zs c (i + 1) = ansS zs c i ++ [whichN (threeS zs (ansS zs c i)) c] := rfl
      generalize threeS zs (ansS zs c i) = cur at hlen hin hall hth2 hans
      obtain ⟨w1, w2, r, w3⟩ := which_ok hin hlen
      refine ⟨_, _, eg_name (fun X h => h.toG) 4 rfl (.inl rfl), ?_⟩
      refine ss_cons (s1_set 5 rfl (.inr rfl) (evr_of (ev_pure hde (Nat.le_refl _) (by rfl) (ea_cons (ev_pure hth (Nat.le_refl _) (by rfl) (ea_cons (ev_var 0 rfl (.inl rfl) rfl) (ea_cons (ev_var 3 rfl (.inl rfl) rfl) ea_nil)) hth2) (ea_cons ev_int ea_nil)) (.ok _ (cur.map .str) 3 .tup (by rw [List.length_map]; omega) (by decide) (by decide))) ?_))
      have hhe : ∀ p : Nat, p < 3 → L2.atI ((List.range 3).map fun i => Sh.D.tup (StepS.strided (cur.map Sh.D.str) i 3)) (p : Int) = some (.tup ((StepS.strided cur p 3).map .str)) := fun p hp => atI_nat (by
        rw [List.getElem?_map, List.getElem?_range hp, ← strided_map]
        rfl)
      refine ss_one (s1_augT 3 rfl (.inl rfl) rfl (ev_tup (ds := [.int (whichN cur c : Nat)]) (ea_cons (ev_ix (EN.ev (EN.to (en_lcF (own := [("place", 6)]) (wF cur c) sc_ans.nd (by rfl) (ei_range1 (by rfl) D.range ev_int (by decide)) trivial (fun x hx => ?_) (by decide)) (w_eq cur c))) ev_int (.lst .lst (atI_nat (j := 0) ?_))) ea_nil) (Nat.le_of_ble_eq_true rfl)) ?_ ⟨⟨some (.int (0 + (i : Int))), some (.tup ((List.range 3).map fun i => Sh.D.tup (StepS.strided (cur.map Sh.D.str) i 3))), ?_⟩, rfl⟩)
      · obtain ⟨p, hp, rfl⟩ := List.mem_map.mp hx
        have hp : p < 3 := List.mem_range.mp hp
        have hat := hhe p hp
        refine turn_if (r := decide (c ∈ StepS.strided cur (Sh.intD (.int (0 + (p : Int)))).toNat 3)) (eg_name (fun X h => h) 6 rfl (.inl (by rfl))) (by decide) (ET.to (et_cmpR (ev_var 1 rfl (.inr (.inl (by rfl))) rfl) (ev_ix (ev_var 5 rfl (.inr (.inl (by rfl))) rfl) (ev_var 6 rfl (.inl (by rfl)) rfl) (.tup (by rw [Int.zero_add]; exact hat))) (SeqF.tup.inS (fun y hy => hall y (strided_mem hy)) hc)) ?_) fun _ => ev_var 6 rfl (.inl (by rfl)) rfl
        show _ = decide (c ∈ StepS.strided cur (0 + (p : Int)).toNat 3)
        rw [Int.zero_add, Int.toNat_natCast]
      · rw [w3]
        rfl
      · rw [List.length_map, show (natsOf (ansS zs c i)).length = i by unfold natsOf; rw [List.length_map, hal]]
        exact Nat.le_trans (show _ ≤ 1001 by simp; omega) (by decide)
      · rw [hans]
        unfold natsOf
        rw [List.map_append, List.map_append]
        rfl
    · obtain ⟨⟨x4, x5, rfl⟩, rfl⟩ := hI
      rw [rngD_len, Int.toNat_natCast]
      exact ss_one (s1_ret (evr_of (ev_var 3 rfl (.inl rfl) rfl) ⟨rfl, .nil _⟩))
end
end S3
set_option Elab.async false
set_option linter.all false
set_option maxRecDepth 100000
set_option maxHeartbeats 2000000
set_option autoImplicit false
namespace S3
open PySem PySem.Spec PySem.W PyProof.Rows L2 Sh
theorem sc_paired : FnScope ["cards", "kinds", "names", "size", "kind", "start"] ["cards", "kinds"] (defScope st_paired) := ⟨rfl, rfl, rfl, by decide +kernel, rfl, by decide +kernel, by decide +kernel⟩
/-! texts in order -/
def leS (a b : Str) : Bool := !ltCps b.cps.toList a.cps.toList
theorem leS_iff (a b : Str) : leS a b = true ↔ a.cps.toList ≤ b.cps.toList := by
  unfold leS
  rw [ltCps_eq, Bool.not_eq_true', decide_eq_false_iff_not]
  exact Iff.rfl
theorem leS_trans (a b c : Str) (h1 : leS a b = true) (h2 : leS b c = true) : leS a c = true :=
  (leS_iff _ _).mpr (List.le_trans ((leS_iff _ _).mp h1) ((leS_iff _ _).mp h2))
theorem leS_total (a b : Str) : (leS a b || leS b a) = true := by
  rw [Bool.or_eq_true]
  rcases List.le_total a.cps.toList b.cps.toList with h | h
  · exact .inl ((leS_iff _ _).mpr h)
  · exact .inr ((leS_iff _ _).mpr h)
theorem cps_inj {a b : Str} (h : a.cps.toList = b.cps.toList) : a = b := by
  cases a
  cases b
  simp only [Str.mk.injEq]
  exact Array.toList_inj.mp h
theorem leS_anti (a b : Str) (h1 : leS a b = true) (h2 : leS b a = true) : a = b := cps_inj (List.le_antisymm ((leS_iff _ _).mp h1) ((leS_iff _ _).mp h2))
theorem rising_pair : ∀ (p : Str) (r : List Str), risingS p r = true → (p :: r).Pairwise fun a b => leS a b = true
  | p, [], _ => List.pairwise_singleton _ _
  | p, x :: r, h => by
    have h : (leS p x && risingS x r) = true := h
    rw [Bool.and_eq_true] at h
    have ih := rising_pair x r h.2
    refine List.pairwise_cons.mpr ⟨fun y hy => ?_, ih⟩
    rcases List.mem_cons.mp hy with rfl | hy
    · exact h.1
    · exact leS_trans p x y h.1 ((List.pairwise_cons.mp ih).1 y hy)
theorem sorted_pair {ys : List Str} (h : sortedS ys = true) : ys.Pairwise fun a b => leS a b = true := by
  cases ys with
  | nil => exact .nil
  | cons p r => exact rising_pair p r h
def srtS (zs : List Str) : List Str := zs.mergeSort leS
theorem srtS_perm (zs : List Str) : (srtS zs).Perm zs := List.mergeSort_perm _ _
theorem srtS_one {ys zs : List Str} (hp : ys.Perm zs) (hs : sortedS ys = true) : ys = srtS zs := by
  refine List.Perm.eq_of_pairwise (le := fun a b => leS a b = true) (fun a b _ _ h1 h2 => leS_anti a b h1 h2) (sorted_pair hs) (List.pairwise_mergeSort leS_trans leS_total zs) (hp.trans (srtS_perm zs).symm)
/-- the kinds, each once, in the order of their coming -/
def onceK (zs : List Str) : List Str := keysOf [] zs
def namesOf (ks : List Str) : List Str := srtS (onceK ks)
theorem names_len (ks : List Str) : (namesOf ks).length = (onceK ks).length := (srtS_perm _).length_eq
theorem once_len (ks : List Str) : (onceK ks).length ≤ ks.length := by
  have := keysOf_len ks ([] : List Str)
  unfold onceK
  simpa using this
theorem names_mem (ks : List Str) : ∀ z ∈ namesOf ks, z ∈ ks := fun z hz => by
  have := (srtS_perm (onceK ks)).mem_iff.mp hz
  have := (keysOf_mem ks [] z).mp this
  simpa using this
theorem keysOf_inr : ∀ (ks acc : List Str), keysOf (acc.map Sum.inr) (ks.map (Sum.inr : Str → Key)) = (keysOf acc ks).map Sum.inr
  | [], acc => rfl
  | k :: ks, acc => by
    have e : ((Sum.inr k : Key) ∈ acc.map Sum.inr) ↔ k ∈ acc := by
      rw [List.mem_map]
      exact ⟨fun ⟨a, h1, h2⟩ => Sum.inr.inj h2 ▸ h1, fun h => ⟨k, h, rfl⟩⟩
    rw [List.map_cons]
    unfold keysOf
    by_cases h : k ∈ acc
    · rw [if_pos (e.mpr h), if_pos h, keysOf_inr ks acc]
    · rw [if_neg fun q => h (e.mp q), if_neg h, ← keysOf_inr ks (acc ++ [k]), List.map_append]
      rfl
/-- piece by piece each name once -/
def pieceS (ks : List Str) (m i : Nat) : List Str := (ks.drop (i * m)).take m
def fitsB (ks : List Str) : Bool := (List.range (cntC ks.length (namesOf ks).length)).all fun i => decide (srtS (pieceS ks (namesOf ks).length i) = namesOf ks)
def pairOk (n : Nat) (ks : List Str) : Prop := ks.length = n ∧ namesOf ks ≠ [] ∧ n % (namesOf ks).length = 0
instance (n : Nat) (ks : List Str) : Decidable (pairOk n ks) := by unfold pairOk; exact inferInstance
inductive SPair (TE : Addr) : Law
  | ok (d : D) (ds : List D) (ks : List Str) (hd : SeqF d ds) (hs : ∀ z ∈ ks, PyData.strOk z = true) (hz : ks.length < 64) (h : pairOk ds.length ks) : SPair TE [d, .lst (ks.map .str)] [] (.ok (.bl (fitsB ks))) []
  | er (d : D) (ds : List D) (ks : List Str) (hd : SeqF d ds) (hs : ∀ z ∈ ks, PyData.strOk z = true) (hz : ks.length < 64) (hz2 : ds.length ≤ 1000) (h : ¬ pairOk ds.length ks) : SPair TE [d, .lst (ks.map .str)] [] (.er TE) []
theorem all_map {α : Type} (l : List α) (p : α → Bool) : (l.map p).all id = l.all p := by
  induction l with
  | nil => rfl
  | cons a l ih => rw [List.map_cons, List.all_cons, List.all_cons, ih]; rfl
section
variable {P : Program} {w : World} {K : PySem.W.Frag} {mg : Str → Option Value} {base : Heap} {T : Tb} {TE SE CD : Addr}
theorem ok_paired {f : Addr} {fd : FuncData} {k : Nat} {c P0 : Addr} (D : Trk K mg TE) (tab : fd.code = .ref c ∧ GxR.TabB base mg c P0 ∧ P0 ∈ T.g ∧ P0 ∉ T.l.map (·.1)) (hk : 3 ≤ k) (Fu : Fun K "is_paired" "is_paired" st_paired f fd) : FnOk P w K mg base (L2.CX P w) (k + 1) f fd ["cards", "kinds"] (spOf K T (SPair TE)) := by
  refine fn_def Fu sc_paired (fun ds W o W' h => by cases h <;> rfl) fun cl E ds W o W' h => ?_
  obtain ⟨d, ds', ks, hd, hs, hz, hz2, e1, e2, e3, hout⟩ : ∃ d ds' ks, SeqF d ds' ∧ (∀ z ∈ ks, PyData.strOk z = true) ∧ ks.length < 64 ∧ ds'.length ≤ 1000 ∧ ds = [d, .lst (ks.map Sh.D.str)] ∧ W = [] ∧ W' = [] ∧ ((¬ pairOk ds'.length ks ∧ o = .er TE) ∨ (pairOk ds'.length ks ∧ o = .ok (.bl (fitsB ks)))) := by
    cases h with
    | ok d ds ks hd hs hz h => exact ⟨d, ds, ks, hd, hs, hz, by have := h.1; omega, rfl, rfl, rfl, .inr ⟨h, rfl⟩⟩
    | er d ds ks hd hs hz hz2 h => exact ⟨d, ds, ks, hd, hs, hz, hz2, rfl, rfl, rfl, .inl ⟨h, rfl⟩⟩
  subst e1 e2 e3
  have hok := once_len ks
  have hnl := names_len ks
  refine ss_cons (s1_set 2 rfl (.inr rfl) (evr_of (EN.ev (en_sortKN (zs := onceK ks) (ms := namesOf ks) (by rfl) D.sorted (en_dcM (own := [("kind", 4)]) (fun x => (Sum.inr (strD x) : Key)) (fun _ => .bl true) sc_paired.nd (by rfl) (ei_list (ev_var 1 rfl (.inr (.inl rfl)) rfl) .lst) .lst (fun x hx => ?_) ?_) ?_ (by omega) (fun ys h1 h2 => srtS_one h1 h2))) ?_))
  · obtain ⟨z, hzz, rfl⟩ := List.mem_map.mp hx
    exact ⟨_, _, eg_name (fun X h => h) 4 rfl (.inl (by rfl)), by decide, ev_var 4 rfl (.inl (by rfl)) rfl, ev_bl⟩
  · rw [List.length_map]
    exact Nat.lt_trans hz (by decide)
  · rw [fold_keys, List.map_map]
    exact keysOf_inr ks []
  have hsn : ∀ z ∈ namesOf ks, PyData.strOk z = true := fun z hzz => hs z (names_mem ks z hzz)
  unfold pairOk at hout
  have hfit : fitsB ks = (List.range (cntC ks.length (namesOf ks).length)).all fun i => decide (srtS (pieceS ks (namesOf ks).length i) = namesOf ks) := rfl
  rw [hfit] at hout
  generalize namesOf ks = ns at hnl hsn hout ⊢
  have hnle : ns.length ≤ 63 := by omega
  refine ss_cons (s1_if (r := !decide (ks.length = ds'.length ∧ ns ≠ [] ∧ ds'.length % ns.length = 0)) (ET.to (et_w (ew_or (et_cmpR (ev_len (by rfl) D.len (ev_var 1 rfl (.inr (.inl rfl)) rfl) (.lst .lst)) (ev_len (by rfl) D.len (ev_var 0 rfl (.inl rfl) rfl) (hd.len _)) (.neI _ _)) fun _ => ew_or (r := decide (ns = [])) (r' := !decide (ds'.length % ns.length = 0)) (et_cmpR (ev_var 2 rfl (.inr (.inl rfl)) rfl) (EN.ev (en_lst (ds := ([] : List Str).map .str) ea_nil (by decide))) (.eqD (Py.strsL ns) (Py.strsL []) (shaped_strsL hsn) (shaped_strsL (by simp)) (by rw [enc_str.list.eq]))) fun hne => ew_or1 (ET.to (et_cmpR (ev_bin (ev_len (by rfl) D.len (ev_var 0 rfl (.inl rfl) rfl) (hd.len _)) (ev_len (by rfl) D.len (ev_var 2 rfl (.inr (.inl rfl)) rfl) (.lst .lst)) (.modI _ _ ?_)) ev_int (.neI _ _)) ?_))) ?_) (fun hr => ?_) fun hr => ss_nil ?_)
  · rw [List.length_map]
    have : ns ≠ [] := of_decide_eq_false hne
    have := List.length_pos_iff.mpr this
    omega
  · rw [List.length_map]
    refine congrArg (!·) (decide_eq_decide.mpr ?_)
    rw [← Int.natCast_emod]
    omega
  · rw [List.length_map, Bool.decide_and, Bool.decide_and, Bool.not_and, Bool.not_and]
    congr 1
    · exact congrArg (!·) (decide_eq_decide.mpr (by omega))
    · congr 1
      rw [← decide_not]
      exact decide_eq_decide.mpr (by simp)
  · have hn : ¬ (ks.length = ds'.length ∧ ns ≠ [] ∧ ds'.length % ns.length = 0) := of_decide_eq_false (by simpa only [Bool.not_eq_true'] using hr)
    refine ss_one (s1_raise D.err (by rfl) ⟨?_, .nil _⟩)
    rcases hout with ⟨_, q⟩ | ⟨h1, _⟩
    · exact q
    · exact absurd h1 hn
  · have hn : ks.length = ds'.length ∧ ns ≠ [] ∧ ds'.length % ns.length = 0 := of_decide_eq_true (by simpa only [Bool.not_eq_false'] using hr)
    obtain ⟨_, rfl⟩ := hout.resolve_left fun q => q.1 hn
    have hn0 := List.length_pos_iff.mpr hn.2.1
    refine ss_cons (s1_set 3 rfl (.inr rfl) (evr_of (EV.to (ev_len (by rfl) D.len (ev_var 2 rfl (.inr (.inl rfl)) rfl) (.lst .lst)) (d1 := .int (ns.length : Nat)) (by rw [List.length_map])) ?_))
    refine ss_one (s1_ret (evr_of (EV.to (ev_allG (bs := (List.range (cntC ks.length ns.length)).map fun i => decide (srtS (pieceS ks ns.length i) = ns)) (by rfl) D.all (GenH.to (gen_hM (own := [("start", 5)]) (fun x => Sh.D.bl (decide (srtS ((ks.drop (Sh.intD x).toNat).take ns.length) = ns))) ⟨c, P0, tab⟩ hk sc_paired.nd (by rfl) ⟨rfl, by decide +kernel, by rfl⟩ (ei_range3 (n := ks.length) (m := ns.length) (by rfl) D.range (ea_cons ev_int (ea_cons (EV.to (ev_len (by rfl) D.len (ev_var 1 rfl (.inr (.inl rfl)) rfl) (.lst .lst)) (by rw [List.length_map])) (ea_cons (ev_var 3 rfl (.inr (.inl rfl)) rfl) ea_nil))) hn0 (by omega) (by omega)) trivial (fun cd x hx => ?_)) ?_)) (congrArg Sh.D.bl (all_map _ _))) ⟨rfl, .nil _⟩))
    · obtain ⟨i, hi, rfl⟩ := List.mem_map.mp hx
      have e0 : (0 + (i : Int) * ((ns.length : Nat) : Int)) = ((i * ns.length : Nat) : Int) := by push_cast; omega
      rw [e0]
      have hcut : cutD (ks.map Sh.D.str) (some ((i * ns.length : Nat) : Int)) (some (((i * ns.length : Nat) : Int) + ((ns.length : Nat) : Int))) = ((ks.drop (i * ns.length)).take ns.length).map Sh.D.str := by
        rw [show ((i * ns.length : Nat) : Int) + ((ns.length : Nat) : Int) = ((i * ns.length + ns.length : Nat) : Int) by push_cast; rfl, cutD_mid, List.map_take, List.map_drop, Nat.add_sub_cancel_left]
      have hpl : ((ks.drop (i * ns.length)).take ns.length).length < 64 := by
        rw [List.length_take]
        omega
      refine turn_map (eg_name (fun X h => h) 5 rfl (.inl (by rfl))) (by decide) (ev_cmpR (EN.ev (en_sortS (zs := (ks.drop (i * ns.length)).take ns.length) (by rfl) D.sorted (EN.ev (EN.to (en_slice (ev_var 1 rfl (.inr (.inr (by rfl))) rfl) (eo_some (ev_var 5 rfl (.inl (by rfl)) rfl)) (eo_some (ev_bin (ev_var 5 rfl (.inl (by rfl)) rfl) (ev_var 3 rfl (.inr (.inr (by rfl))) rfl) (.addI _ _))) .lst) hcut)) .lst hpl (fun ys h1 h2 => srtS_one h1 h2))) (ev_var 2 rfl (.inr (.inr (by rfl))) rfl) (.eqD (Py.strsL _) (Py.strsL _) (shaped_strsL fun z hzz => ?_) (shaped_strsL hsn) (by rw [enc_str.list.eq]; rfl)))
      have := (srtS_perm _).mem_iff.mp hzz
      exact hs z (List.mem_of_mem_drop (List.mem_of_mem_take this))
    · unfold rngC
      rw [List.map_map, List.map_map]
      refine List.map_congr_left fun i _ => ?_
      show Sh.D.bl (decide (srtS ((ks.drop (0 + (i : Int) * ((ns.length : Nat) : Int)).toNat).take ns.length) = ns)) = Sh.D.bl (decide (srtS (pieceS ks ns.length i) = ns))
      rw [show (0 + (i : Int) * ((ns.length : Nat) : Int)) = ((i * ns.length : Nat) : Int) by push_cast; omega, Int.toNat_natCast]
      rfl
end
end S3
set_option Elab.async false
set_option linter.all false
set_option maxRecDepth 100000
set_option maxHeartbeats 2000000
set_option autoImplicit false
namespace S3
open PySem PySem.Spec PySem.W PyProof.Rows L2 Sh
abbrev st_lheaps : Stmt := topS 34
abbrev st_lkey : Stmt := topS 35
theorem sc_lheaps : FnScope ["cards", "answer", "heaps", "others", "place"] ["cards", "answer"] (defScope st_lheaps) := ⟨rfl, rfl, rfl, by decide +kernel, rfl, by decide +kernel, by decide +kernel⟩
theorem sc_lkey : FnScope ["card"] ["card"] (defScope st_lkey) := ⟨rfl, rfl, rfl, by decide +kernel, rfl, by decide +kernel, by decide +kernel⟩
inductive SLHeaps : Law
  | mk (ds : List D) (a : Nat) (hz : ds.length = 21) (ha : a < 3) : SLHeaps [.lst ds, .int (a : Nat)] [] (.ok (.lst (heapS ds a))) []
inductive SLKey : Law
  | mk (z : Str) (h : okc z = true) : SLKey [.str z] [] (.ok (.tup [.int ((rkN z - 1 : Nat) : Int), .int (suN z : Nat)])) []
def hpF (ds : List D) (x : D) : D := .lst (StepS.strided ds (Sh.intD x).toNat 3)
def ohF (ds : List D) (a : Nat) (x : D) : Option D := if !decide (Sh.intD x = (a : Int)) then some (.lst (StepS.strided ds (Sh.intD x).toNat 3)) else none
theorem hp_eq (ds : List D) : (rngD 0 3).filterMap (fun x => some (hpF ds x)) = [.lst (StepS.strided ds 0 3), .lst (StepS.strided ds 1 3), .lst (StepS.strided ds 2 3)] := rfl
theorem oh_eq (ds : List D) {a : Nat} (h : a < 3) : ([0, 1, 2].map D.int).filterMap (ohF ds a) = [.lst (StepS.strided ds (othersN a).1 3), .lst (StepS.strided ds (othersN a).2 3)] := by
  match a, h with
  | 0, _ => rfl
  | 1, _ => rfl
  | 2, _ => rfl
section
variable {P : Program} {w : World} {K : PySem.W.Frag} {mg : Str → Option Value} {base : Heap} {T : Tb} {TE SE CD : Addr}
theorem ok_lheaps {f : Addr} {fd : FuncData} {k : Nat} (D : Trk K mg TE) (Fu : Fun K "_law_heaps" "_law_heaps" st_lheaps f fd) : FnOk P w K mg base (L2.CX P w) (k + 1) f fd ["cards", "answer"] (spOf K T SLHeaps) := by
  refine fn_def Fu sc_lheaps (fun ds W o W' h => by cases h <;> rfl) fun cl E ds W o W' h => ?_
  cases h with
  | mk ds a hz ha =>
    have hzl : ds.length ≤ sizeLine := by rw [hz]; decide
    refine ss_cons (s1_set 2 rfl (.inr rfl) (evr_of (EN.ev (EN.to (en_lcF (own := [("place", 4)]) (fun x => some (hpF ds x)) sc_lheaps.nd (by rfl) (ei_range1 (by rfl) D.range ev_int (by decide)) trivial (fun x hx => ?_) (by decide)) (hp_eq ds))) ?_) (fun env he => sw_cell (by rw [he]; rfl) (by rw [he]; rfl)))
    · obtain ⟨p, hp, rfl⟩ := List.mem_map.mp hx
      refine turn_map (eg_name (fun X h => h) 4 rfl (.inl (by rfl))) (by decide) (EV.to (ev_stepQ (i := p) (n := 3) (ev_var 0 rfl (.inr (.inl (by rfl))) rfl) (eo_some (EV.to (ev_var 4 rfl (.inl (by rfl)) rfl) (by rw [Int.zero_add]))) (eo_some ev_int) .lst (by decide) hzl) ?_)
      show Sh.D.lst (StepS.strided ds p 3) = Sh.D.lst (StepS.strided ds (0 + (p : Int)).toNat 3)
      rw [Int.zero_add, Int.toNat_natCast]
    have hhe : ∀ p : Nat, p < 3 → L2.atI [Sh.D.lst (StepS.strided ds 0 3), .lst (StepS.strided ds 1 3), .lst (StepS.strided ds 2 3)] (p : Int) = some (.lst (StepS.strided ds p 3)) := fun p hp => by
      match p, hp with
      | 0, _ => exact atI_nat rfl
      | 1, _ => exact atI_nat rfl
      | 2, _ => exact atI_nat rfl
    obtain ⟨o1, o2⟩ := othersN_lt a
    have l1 := strided_seven ds hz _ o1
    have l2 := strided_seven ds hz _ ha
    have l3 := strided_seven ds hz _ o2
    refine ss_cons (s1_setLcF (own := [("place", 4)]) 3 (ohF ds a) sc_lheaps.nd rfl rfl rfl rfl (by rfl) (by rfl) (ei_list (EN.ev (en_lst (ds := [0, 1, 2].map .int) (ea_cons ev_int (ea_cons ev_int (ea_cons ev_int ea_nil))) (by decide))) .lst) .lst (fun x hx => ?_) (by decide) ?_)
    · obtain ⟨p, hp, rfl⟩ := List.mem_map.mp hx
      obtain ⟨q, rfl, hq⟩ : ∃ q : Nat, p = (q : Int) ∧ q < 3 := by
        simp only [List.mem_cons, List.not_mem_nil, or_false] at hp
        rcases hp with rfl | rfl | rfl
        · exact ⟨0, rfl, by decide⟩
        · exact ⟨1, rfl, by decide⟩
        · exact ⟨2, rfl, by decide⟩
      refine turn_if (r := !decide (Sh.intD (.int (q : Int)) = (a : Int))) (eg_name (fun X h => h) 4 rfl (.inl (by rfl))) (by decide) (et_cmpR (ev_var 4 rfl (.inl (by rfl)) rfl) (ev_var 1 rfl (.inr (.inl (by rfl))) rfl) (.neI _ _)) fun _ => ev_ix (ev_var 2 rfl (.inr (.inl (by rfl))) rfl) (ev_var 4 rfl (.inl (by rfl)) rfl) (.lst .lst (hhe q hq))
    rw [oh_eq ds ha]
    refine ss_one (s1_ret (evr_of (EN.ev (en_cat (EN.ev (en_cat (ev_ix (ev_var 3 rfl (.inl rfl) rfl) ev_int (.lst .lst (atI_nat (j := 0) rfl))) (ev_ix (ev_var 2 rfl (.inr (.inl rfl)) rfl) (ev_var 1 rfl (.inr (.inl rfl)) rfl) (.lst .lst (hhe a ha))) .lst .lst (by rw [l1, l2]; decide))) (ev_ix (ev_var 3 rfl (.inl rfl) rfl) ev_int (.lst .lst (atI_nat (j := 1) rfl))) .lst .lst (by rw [List.length_append, l1, l2, l3]; decide))) ⟨rfl, .nil _⟩))
theorem ok_lkey {f : Addr} {fd : FuncData} {k : Nat} (Fu : Fun K "_law_key" "_law_key" st_lkey f fd) : FnOk P w K mg base (L2.CX P w) (k + 1) f fd ["card"] (spOf K T SLKey) := by
  refine fn_def Fu sc_lkey (fun ds W o W' h => by cases h <;> rfl) fun cl E ds W o W' h => ?_
  cases h with
  | mk z h =>
    obtain ⟨a, b, ez, h1, h2⟩ := okc_two h
    have hl := okc_len h
    have hzl : z.length ≤ sizeLine := Nat.le_trans (by omega : z.length ≤ 1000) (by decide)
    obtain ⟨r1, o1⟩ := head_rest (rk_occ a h1)
    obtain ⟨r2, o2⟩ := head_rest (su_occ b h2)
    refine ss_one (s1_ret (evr_of (EV.to (ev_tup (ea_cons (ev_sindex ev_str (ev_ix (ev_var 0 rfl (.inl rfl) rfl) ev_int (.str hzl (c := a) (by rw [ez]; rfl))) o1) (ea_cons (ev_sindex ev_str (ev_ix (ev_var 0 rfl (.inl rfl) rfl) ev_int (.str hzl (c := b) (by rw [ez]; rfl))) o2) ea_nil)) (Nat.le_of_ble_eq_true rfl)) ?_) ⟨rfl, .nil _⟩))
    unfold rkN suN
    rw [ez]
    rfl
end
end S3
set_option Elab.async false
set_option linter.all false
set_option maxRecDepth 100000
set_option maxHeartbeats 2000000
set_option autoImplicit false
namespace S3
open PySem PySem.Spec PySem.W PyProof.Rows L2 Sh
/-! the order of cards: value_of's keys, _law_key's -/
def pdV (z : Str) : PyData := .tuple [.int (rkN z : Nat), .int (suN z : Nat)]
def pdL (z : Str) : PyData := .tuple [.int ((rkN z - 1 : Nat) : Int), .int (suN z : Nat)]
def kdV (z : Str) : D := .tup [.int (rkN z : Nat), .int (suN z : Nat)]
def kdL (z : Str) : D := .tup [.int ((rkN z - 1 : Nat) : Int), .int (suN z : Nat)]
def cardLe (a b : Str) : Bool := decide (rkN a < rkN b ∨ (rkN a = rkN b ∧ suN a ≤ suN b))
theorem rkN_pos (z : Str) : 0 < rkN z := Nat.succ_pos _
theorem dle_pair (f g : Str → Int) (a b : Str) : dataLe false (fun z => .tuple [.int (f z), .int (g z)]) a b = decide (f a < f b ∨ (f a = f b ∧ g a ≤ g b)) := by
  show (!lexLt itemOrd [.inl 1, .inl (f b), .inl 1, .inl (g b), .inl 0] [.inl 1, .inl (f a), .inl 1, .inl (g a), .inl 0]) = _
  simp only [PyProof.Rows.lexLt, itemLt]
  by_cases h1 : f b < f a
  · rw [decide_eq_false (show ¬ (f a < f b ∨ (f a = f b ∧ g a ≤ g b)) by omega)]
    simp [h1]
  · by_cases h2 : f a < f b
    · rw [decide_eq_true (show (f a < f b ∨ (f a = f b ∧ g a ≤ g b)) by omega)]
      simp [h1, h2]
    · have e : f a = f b := by omega
      by_cases h3 : g b < g a
      · rw [decide_eq_false (show ¬ (f a < f b ∨ (f a = f b ∧ g a ≤ g b)) by omega)]
        simp [e, h3]
      · rw [decide_eq_true (show (f a < f b ∨ (f a = f b ∧ g a ≤ g b)) by omega)]
        simp [e, h3]
theorem dleV : dataLe false pdV = cardLe := funext fun a => funext fun b => (dle_pair _ _ a b).trans (decide_eq_decide.mpr (by omega))
theorem dleL : dataLe false pdL = cardLe := funext fun a => funext fun b => (dle_pair _ _ a b).trans (decide_eq_decide.mpr (by
  have := rkN_pos a
  have := rkN_pos b
  omega))
theorem alike_pair (f g : Str → Int) (zs : List Str) : AllAlike (zs.map fun z => .tuple [.int (f z), .int (g z)]) := fun d hd d' hd' => by
  obtain ⟨a, _, rfl⟩ := List.mem_map.mp hd
  obtain ⟨b, _, rfl⟩ := List.mem_map.mp hd'
  rfl
theorem sortable_pair (f g : Str → Int) (zs : List Str) : Sortable (zs.map fun z => .tuple [.int (f z), .int (g z)]) := .inl fun d hd => by
  obtain ⟨a, _, rfl⟩ := List.mem_map.mp hd
  exact ⟨_, _, rfl⟩
theorem py_pair {W : OW} (i j : Int) : Py W (.tup [.int i, .int j]) (.tuple [.int i, .int j]) := Py.intsT [i, j]
end S3
set_option Elab.async false
set_option linter.all false
set_option maxRecDepth 100000
set_option maxHeartbeats 2000000
set_option autoImplicit false
namespace S3
open PySem PySem.Spec PySem.W PyProof.Rows L2 Sh
theorem sc_toldby : FnScope ["row", "base", "rest", "order", "rank", "card"] ["row"] (defScope st_toldby) := ⟨rfl, rfl, rfl, by decide +kernel, rfl, by decide +kernel, by decide +kernel⟩
def ordersL : List (List Int) := [[0, 1, 2], [0, 2, 1], [1, 0, 2], [1, 2, 0], [2, 0, 1], [2, 1, 0]]
def ordersD : List D := ordersL.map fun ns => .tup (ns.map .int)
def ordersP : List PyData := ordersL.map fun ns => .tuple (ns.map .int)
structure Ords (K : PySem.W.Frag) (mg : Str → Option Value) : Prop where
  ex : ∃ a, mg "ORDERS" = some (.ref a) ∧ ∀ G, Rp K G (.ref a) (.tup ordersD)
theorem py_orders {W : OW} : Py W (.tup ordersD) (.tuple ordersP) := .tup (by simp [ordersD, ordersP]) fun i d p h1 h2 => by
  unfold ordersD at h1
  unfold ordersP at h2
  rw [List.getElem?_map] at h1 h2
  cases e : ordersL[i]? with
  | none => rw [e] at h1; cases h1
  | some ns => rw [e] at h1 h2; cases h1; cases h2; exact Py.intsT ns
theorem shaped_orders : SeqAt.shaped (.tuple ordersP) = true := enc_int.tup.tup.shaped (by decide) (a := ordersL) (fun _ _ _ _ => trivial)
/-- how three cards stand among themselves in order -/
def restS (tl : List Str) : List Str := tl.mergeSort cardLe
def orderS (tl : List Str) : List Int := tl.map fun z => (((restS tl).idxOf z : Nat) : Int)
def ordN (o : List Int) : Nat := @List.idxOf (List Int) instBEqOfDecidableEq o ordersL
def toldZ (b : Str) (tl : List Str) : Str := (⟨#[ranksL.getD ((rkN b - 1 + ordN (orderS tl) + 1) % 13) 0]⟩ : Str) ++ ⟨#[suitsL.getD (suN b) 0]⟩
inductive SToldBy (TE : Addr) : Law
  | ok (d : D) (b : Str) (tl : List Str) (hd : SeqF d ((b :: tl).map .str)) (h3 : tl.length = 3) (hok : ∀ z ∈ b :: tl, okc z = true) (h : orderS tl ∈ ordersL) : SToldBy TE [d] [] (.ok (.str (toldZ b tl))) []
  | er (d : D) (b : Str) (tl : List Str) (hd : SeqF d ((b :: tl).map .str)) (h3 : tl.length = 3) (hok : ∀ z ∈ b :: tl, okc z = true) (h : orderS tl ∉ ordersL) : SToldBy TE [d] [] (.er TE) []
  | bad (d : D) (b x : Str) (tl : List Str) (hd : SeqF d ((b :: x :: tl).map .str)) (h3 : tl.length = 2) (hx : x.length ≤ 1000) (h : okc x = false) : SToldBy TE [d] [] (.er TE) []
  | few (d : D) (ds : List D) (hd : SeqF d ds) (hz : ds.length ≤ 1000) (h : ds.length ≠ 4) : SToldBy TE [d] [] (.er TE) []
section
variable {P : Program} {w : World} {K : PySem.W.Frag} {mg : Str → Option Value} {base : Heap} {T : Tb} {TE SE CD : Addr}
theorem ok_toldby {f : Addr} {fd : FuncData} {k : Nat} {c P0 : Addr} (D : Trk K mg TE) (O : Ords K mg) (hval : Fd P w K mg base T "value_of" k 1 (SVal TE)) (tab : fd.code = .ref c ∧ GxR.TabB base mg c P0 ∧ P0 ∈ T.g ∧ P0 ∉ T.l.map (·.1)) (hk : 3 ≤ k) (Fu : Fun K "told_by" "told_by" st_toldby f fd) : FnOk P w K mg base (L2.CX P w) (k + 3) f fd ["row"] (spOf K T (SToldBy TE)) := by
  refine fn_def Fu sc_toldby (fun ds W o W' h => by cases h <;> rfl) fun cl E ds W o W' h => ?_
  obtain ⟨fv, gv, atv⟩ := hval.at
  obtain ⟨oa, og, orp⟩ := O.ex
  obtain ⟨t1, hr⟩ := D.ranks
  have hval2 := hval.up (Nat.le_add_right k 2)
  obtain ⟨d, dsz, hcase⟩ : ∃ d : Sh.D, ds = [d] ∧ W = [] ∧ W' = [] ∧ ((∃ ds', SeqF d ds' ∧ ds'.length ≠ 4 ∧ o = .er TE) ∨ (∃ b x tl, SeqF d ((b :: x :: tl).map Sh.D.str) ∧ tl.length = 2 ∧ x.length ≤ 1000 ∧ okc x = false ∧ o = .er TE) ∨ ∃ b tl, SeqF d ((b :: tl).map Sh.D.str) ∧ tl.length = 3 ∧ (∀ z ∈ b :: tl, okc z = true) ∧ ((orderS tl ∈ ordersL ∧ o = .ok (.str (toldZ b tl))) ∨ (orderS tl ∉ ordersL ∧ o = .er TE))) := by
    cases h with
    | few d ds hd hz h => exact ⟨d, rfl, rfl, rfl, .inl ⟨ds, hd, h, rfl⟩⟩
    | bad d b x tl hd h3 hx h => exact ⟨d, rfl, rfl, rfl, .inr (.inl ⟨b, x, tl, hd, h3, hx, h, rfl⟩)⟩
    | ok d b tl hd h3 hok h => exact ⟨d, rfl, rfl, rfl, .inr (.inr ⟨b, tl, hd, h3, hok, .inl ⟨h, rfl⟩⟩)⟩
    | er d b tl hd h3 hok h => exact ⟨d, rfl, rfl, rfl, .inr (.inr ⟨b, tl, hd, h3, hok, .inr ⟨h, rfl⟩⟩)⟩
  obtain ⟨e2, e3, hcase⟩ := hcase
  subst dsz e2 e3
  rcases hcase with ⟨ds', hd, hl, rfl⟩ | ⟨b, x, tl, hd, h3, hx, hbad, rfl⟩ | ⟨b, tl, hd, h3, hok, hout⟩
  · exact ss_cons (s1_ifT (ET.to (et_cmpR (ev_len (by rfl) D.len (ev_var 0 rfl (.inl rfl) rfl) (hd.len _)) ev_int (.neI _ _)) (by
      rw [decide_eq_false (by omega)]
      rfl)) (ss_one (s1_raise D.err (by rfl) ⟨rfl, .refl _⟩)))
  · refine ss_cons (s1_ifF (ET.to (et_cmpR (ev_len (by rfl) D.len (ev_var 0 rfl (.inl rfl) rfl) (hd.len _)) ev_int (.neI _ _)) (by
      rw [List.length_map, List.length_cons, List.length_cons, h3]
      rfl)) (ss_nil ?_))
    have hcut : cutD ((b :: x :: tl).map Sh.D.str) (some 1) none = (x :: tl).map .str := cutD_from _ 1
    have hsq : SeqD [] (likeD d ((x :: tl).map Sh.D.str)) ((x :: tl).map Sh.D.str) := (hd.like _).q _
    exact ss_cons (s1_asgCE (ev_tupE (ea_er2 (ev_ix (ev_var 0 rfl (.inl rfl) rfl) ev_int (hd.ix (atI_nat (j := 0) rfl))) (ea_er (ev_sortKeyE (S := SVal TE) (by rfl) D.sorted (by rfl) gv atv (Nat.le_refl _) (EV.to (ev_sliceQ (ev_var 0 rfl (.inl rfl) rfl) (eo_some ev_int) eo_none hd) (congrArg (likeD d) hcut)) hsq (.er x hx hbad) (by rw [List.length_cons, h3]; decide))))) ⟨rfl, .refl _⟩ (fun env he => by
      obtain ⟨a1, a2, a3, a4, a5, a6, a7, a8, a9⟩ := env
      cases he
      rfl))
  have hb := hok b List.mem_cons_self
  have htl : ∀ z ∈ tl, okc z = true := fun z hz => hok z (List.mem_cons_of_mem _ hz)
  have hso : ∀ z ∈ tl, PyData.strOk z = true := fun z hz => okc_strOk (htl z hz)
  have hperm : (restS tl).Perm tl := List.mergeSort_perm _ _
  have hro : ∀ z ∈ restS tl, PyData.strOk z = true := fun z hz => hso z (hperm.mem_iff.mp hz)
  refine ss_cons (s1_ifF (ET.to (et_cmpR (ev_len (by rfl) D.len (ev_var 0 rfl (.inl rfl) rfl) (hd.len _)) ev_int (.neI _ _)) (by
    rw [List.length_map, List.length_cons, h3]
    rfl)) (ss_nil ?_))
  have hcut : cutD ((b :: tl).map Sh.D.str) (some 1) none = tl.map .str := cutD_from _ 1
  have hsq : SeqD [] (likeD d (tl.map Sh.D.str)) (tl.map Sh.D.str) := (hd.like _).q _
  refine ss_cons (s1_asgC (evr_of (ev_tup (ea_cons (ev_ix (ev_var 0 rfl (.inl rfl) rfl) ev_int (hd.ix (atI_nat (j := 0) rfl))) (ea_cons (EN.ev (EN.to (en_sortKey (S := SVal TE) (kd := kdV) (pd := pdV) (by rfl) D.sorted (by rfl) gv atv (Nat.le_refl _) (EV.to (ev_sliceQ (ev_var 0 rfl (.inl rfl) rfl) (eo_some ev_int) eo_none hd) (congrArg (likeD d) hcut)) hsq (fun x hx => .ok x (htl x hx)) (by omega) (fun W x => py_pair _ _) (alike_pair _ _ _) (sortable_pair _ _ _) (fun x hx => by simp [pdV, PyData.depth, PyData.depthAll])) (show _ = (restS tl).map Sh.D.str by rw [dleV]; rfl))) ea_nil)) (Nat.le_of_ble_eq_true rfl)) ⟨_, _, eg_tup (fun X h => h.toG) (egs_cons (eg_name (fun X h => h.toG) 1 rfl (.inl rfl)) (egs_cons (eg_name (fun X h => h.toG) 2 rfl (.inr ⟨rfl, fun X h => h.fn _⟩)) egs_nil)) rfl, ?_⟩) (fun env he => by
    obtain ⟨a1, a2, a3, a4, a5, a6, a7, a8, a9⟩ := env
    cases he
    rfl))
  have hord : (tl.map Sh.D.str).map (fun x => Sh.D.int (((restS tl).idxOf (strD x) : Nat) : Int)) = (orderS tl).map .int := by
    unfold orderS
    rw [List.map_map, List.map_map]
    rfl
  refine ss_cons (s1_set 3 rfl (.inl rfl) (evr_of (EV.to (ev_tupG (by rfl) D.tuple (gen_hM (own := [("card", 5)]) (fun x => Sh.D.int (((restS tl).idxOf (strD x) : Nat) : Int)) ⟨c, P0, tab⟩ (Nat.le_trans hk (Nat.le_add_right k 2)) sc_toldby.nd (by rfl) ⟨rfl, by decide +kernel, by rfl⟩ (ei_seq (EV.to (ev_sliceQ (ev_var 0 rfl (.inl rfl) rfl) (eo_some ev_int) eo_none hd) (congrArg (likeD d) hcut)) (hd.like _)) trivial (fun cd x hx => ?_)) ?_) (congrArg Sh.D.tup hord)) ?_))
  · obtain ⟨z, hz, rfl⟩ := List.mem_map.mp hx
    exact turn_map (eg_name (fun X h => h) 5 rfl (.inl (by rfl))) (by decide) (ev_indexS (zs := restS tl) (ev_var 2 rfl (.inr (.inr (by rfl))) rfl) .lst (ev_var 5 rfl (.inl (by rfl)) rfl) hro (hperm.mem_iff.mpr hz))
  · rw [List.length_map, List.length_map, h3]
    decide
  refine ss_cons (s1_if (et_cmpR (ev_var 3 rfl (.inl rfl) rfl) (ev_glob (v := .ref oa) (by rfl) og rfl orp) (.niT (Py.intsT (orderS tl)) py_orders (enc_int.tup.shaped (by decide) (fun _ _ => trivial)) shaped_orders (congrArg (!·) (enc_int.tup.any ordersL (orderS tl))))) (fun hr2 => ?_) fun hr2 => ss_nil ?_)
  · have hn : orderS tl ∉ ordersL := by simpa using hr2
    refine ss_one (s1_raise D.err (by rfl) ⟨?_, .nil _⟩)
    rcases hout with ⟨q, _⟩ | ⟨_, q⟩
    · exact absurd q hn
    · exact q
  have hin : orderS tl ∈ ordersL := by simpa using hr2
  obtain ⟨_, rfl⟩ := hout.resolve_right fun q => q.1 hin
  obtain ⟨i1, i2⟩ : ordersL[ordN (orderS tl)]? = some (orderS tl) ∧ ∀ (m : Nat) (y : List Int), m < ordN (orderS tl) → ordersL[m]? = some y → y ≠ orderS tl := idx_first hin
  obtain ⟨a, b2, ez, ha, hb2⟩ := okc_two hb
  have hlb := okc_len hb
  have hzl : b.length ≤ sizeLine := Nat.le_trans (by omega : b.length ≤ 1000) (by decide)
  have hrk := rkN_pos b
  refine ss_cons (s1_set 4 rfl (.inl rfl) (evr_of (EV.to (d1 := .int ((rkN b - 1 + ordN (orderS tl) + 1) % 13 : Nat)) (ev_bin (ev_bin (ev_bin (ev_bin (ev_ix (ev_pure hval2 (Nat.le_refl _) (by rfl) (ea_cons (ev_var 1 rfl (.inl rfl) rfl) ea_nil) (.ok b hb)) ev_int (.tup (atI_nat (j := 0) rfl))) ev_int (.subI _ _)) (ev_tindex (j := ordN (orderS tl)) (q := .tuple ((orderS tl).map .int)) (ev_glob (v := .ref oa) (by rfl) og rfl orp) (ev_var 3 rfl (.inl rfl) rfl) py_orders (Py.intsT (orderS tl)) shaped_orders (enc_int.tup.shaped (by decide) (fun _ _ => trivial)) ?_ ?_ ?_) (.addI _ _)) ev_int (.addI _ _)) ev_int (.modI _ _ (by decide))) ?_) ?_))
  · unfold ordersP
    rw [List.getElem?_map, i1]
    rfl
  · rw [enc_int.tup.eq]
    exact decide_eq_true rfl
  · intro m q hm hq
    unfold ordersP at hq
    rw [List.getElem?_map] at hq
    cases e : ordersL[m]? with
    | none => rw [e] at hq; cases hq
    | some y =>
      rw [e] at hq
      cases hq
      rw [enc_int.tup.eq]
      exact decide_eq_false (i2 m y hm e)
  · refine congrArg Sh.D.int ?_
    push_cast
    rw [Int.natCast_sub hrk]
    rfl
  have hr13 : (rkN b - 1 + ordN (orderS tl) + 1) % 13 < 13 := Nat.mod_lt _ (by decide)
  have hat : L2.atI ("A23456789TJQK" : Str).cps.toList (((rkN b - 1 + ordN (orderS tl) + 1) % 13 : Nat) : Int) = some (ranksL.getD ((rkN b - 1 + ordN (orderS tl) + 1) % 13) 0) := atI_nat (by
    rw [List.getD_eq_getElem?_getD, List.getElem?_eq_getElem (show _ < ranksL.length from hr13)]
    exact List.getElem?_eq_getElem hr13)
  have hsu : suitsL.getD (suN b) 0 = b2 := by
    unfold suN
    rw [ez]
    have : (suitsL.idxOf b2) < suitsL.length := List.idxOf_lt_length_of_mem hb2
    show suitsL.getD (suitsL.idxOf b2) 0 = b2
    rw [List.getD_eq_getElem?_getD, List.getElem?_eq_getElem this]
    exact List.getElem_idxOf this
  refine ss_one (s1_ret (evr_of (EV.to (ev_bin (ev_ix (ev_globS (by rfl) hr) (ev_var 4 rfl (.inl rfl) rfl) (.str (by decide) hat)) (ev_ix (ev_var 1 rfl (.inl rfl) rfl) ev_int (.str hzl (c := b2) (by rw [ez]; rfl))) (.addS _ _ (show 1 + 1 ≤ sizeLine by decide))) ?_) ⟨rfl, .nil _⟩))
  unfold toldZ
  rw [hsu]
end
end S3
set_option Elab.async false
set_option linter.all false
set_option maxRecDepth 100000
set_option maxHeartbeats 2000000
set_option autoImplicit false
namespace S3
open PySem PySem.Spec PySem.W PyProof.Rows L2 Sh
theorem sc_colours : FnScope ["cards", "card"] ["cards"] (defScope st_colours) := ⟨rfl, rfl, rfl, by decide +kernel, rfl, by decide +kernel, by decide +kernel⟩
def colS (z : Str) : Str := if redB z then "red" else "black"
/-- rows of cards, and those whose first is none -/
inductive SCol (CD : Addr) : Law
  | ok (d : D) (zs : List Str) (hd : SeqF d (zs.map .str)) (hz : zs.length ≤ 1000) (h : ∀ z ∈ zs, okc z = true) : SCol CD [d] [] (.ok (.tup ((zs.map colS).map .str))) []
  | er (d : D) (z : Str) (zs : List Str) (hd : SeqF d ((z :: zs).map .str)) (hz : z.length ≤ 1000) (h : okc z = false) : SCol CD [d] [] (.er CD) []
section
variable {P : Program} {w : World} {K : PySem.W.Frag} {mg : Str → Option Value} {base : Heap} {T : Tb} {TE SE CD : Addr}
theorem ok_colours {f : Addr} {fd : FuncData} {k : Nat} {c P0 : Addr} (D : Trk K mg TE) (hred : Fd P w K mg base T "is_red" k 1 (SRed CD)) (tab : fd.code = .ref c ∧ GxR.TabB base mg c P0 ∧ P0 ∈ T.g ∧ P0 ∉ T.l.map (·.1)) (hns : subIn K (.ref CD) (.type "StopIteration") = some false) (hk : 3 ≤ k) (Fu : Fun K "colours_of" "colours_of" st_colours f fd) : FnOk P w K mg base (L2.CX P w) (k + 4) f fd ["cards"] (spOf K T (SCol CD)) := by
  refine fn_def Fu sc_colours (fun ds W o W' h => by cases h <;> rfl) fun cl E ds W o W' h => ?_
  cases h with
  | er d z zs hd hz h =>
    refine ss_one (s1_retE (W1 := []) (ev_tupGE (by rfl) D.tuple hns (gen_hE (own := [("card", 1)]) ⟨c, P0, tab⟩ (Nat.le_trans hk (Nat.le_add_right k 3)) sc_colours.nd (by rfl) ⟨rfl, by decide +kernel, by rfl⟩ (ei_seq (ev_var 0 rfl (.inl rfl) rfl) hd) trivial (fun cd E' => ?_))) ⟨rfl, .nil _⟩)
    exact turnE_elt (eg_name (fun X h => h) 1 rfl (.inl (by rfl))) (ev_ifE (et_valE (ev_pure hred (show k ≤ _ from Nat.le_refl k) (by rfl) (ea_cons (ev_var 1 rfl (.inl (by rfl)) rfl) ea_nil) (.er z hz h))))
  | ok d zs hd hz h =>
    have e : (zs.map Sh.D.str).map (fun x => Sh.D.str (colS (strD x))) = (zs.map colS).map .str := by
      rw [List.map_map, List.map_map]
      rfl
    refine ss_one (s1_ret (evr_of (EV.to (ev_tupG (by rfl) D.tuple (gen_hM (own := [("card", 1)]) (fun x => Sh.D.str (colS (strD x))) ⟨c, P0, tab⟩ (Nat.le_trans hk (Nat.le_add_right k 3)) sc_colours.nd (by rfl) ⟨rfl, by decide +kernel, by rfl⟩ (ei_seq (ev_var 0 rfl (.inl rfl) rfl) hd) trivial (fun cd x hx => ?_)) ?_) (congrArg Sh.D.tup e)) ⟨rfl, .nil _⟩))
    · obtain ⟨z, hzz, rfl⟩ := List.mem_map.mp hx
      refine turn_map (eg_name (fun X h => h) 1 rfl (.inl (by rfl))) (by decide) (ev_if (r := redB z) (o := .ok (.str (colS z))) (et_val (ev_pure hred (show k ≤ _ from Nat.le_refl k) (by rfl) (ea_cons (ev_var 1 rfl (.inl (by rfl)) rfl) ea_nil) (.ok z (h z hzz)))) (fun hr => EV.to ev_str ?_) fun hr => EV.to ev_str ?_)
      · unfold colS
        rw [if_pos hr]
      · unfold colS
        rw [if_neg (by rw [hr]; decide)]
    · rw [List.length_map, List.length_map]
      exact Nat.le_trans hz (by decide)
end
end S3
set_option Elab.async false
set_option linter.all false
set_option maxRecDepth 100000
set_option maxHeartbeats 2000000
set_option autoImplicit false
namespace S3
open PySem PySem.Spec PySem.W PyProof.Rows L2 Sh
theorem sc_five : FnScope ["cards", "kept", "base", "far", "rest", "order", "card", "place"] ["cards"] (defScope st_five) := ⟨rfl, rfl, rfl, by decide +kernel, rfl, by decide +kernel, by decide +kernel⟩
/-- how far up from b's rank k's is -/
def farZ (k b : Str) : Int := ((rkN k : Int) - (rkN b : Int)) % 13
def fitF (k b : Str) : Bool := (!decide (k = b) && decide ((⟨#[suitsL.getD (suN k) 0]⟩ : Str) = ⟨#[suitsL.getD (suN b) 0]⟩)) && (decide (1 ≤ farZ k b) && decide (farZ k b ≤ 6))
/-- all but two -/
def butS (zs : List Str) (k b : Str) : List Str := zs.filter fun z => !decide (z ∈ ([k, b] : List Str))
def permOf (r : List Str) (o : List Int) : List Str := o.map fun i => r.getD i.toNat ""
def rowZ (zs : List Str) (k b : Str) : List Str := b :: permOf (restS (butS zs k b)) (ordersL.getD ((farZ k b).toNat - 1) [])
def pairsZ (xs zs : List Str) : List (Str × Str) := xs.flatMap fun k => zs.map fun b => (k, b)
def hitZ (zs : List Str) : Option (Str × Str) := (pairsZ zs zs).find? fun p => fitF p.1 p.2
inductive SFive (TE : Addr) : Law
  | ok (d : D) (zs : List Str) (k b : Str) (hd : SeqF d (zs.map .str)) (h5 : zs.length = 5) (nd : zs.Nodup) (hok : ∀ z ∈ zs, okc z = true) (h : hitZ zs = some (k, b)) : SFive TE [d] [] (.ok (.tup [.str k, .tup ((rowZ zs k b).map .str)])) []
  | er (d : D) (zs : List Str) (hd : SeqF d (zs.map .str)) (hz : zs.length ≤ 1000) (hok : ∀ z ∈ zs, okc z = true) (h : ¬ (zs.length = 5 ∧ zs.Nodup)) : SFive TE [d] [] (.er TE) []
  | bad (d : D) (z : Str) (zs : List Str) (hd : SeqF d ((z :: zs).map .str)) (hz : z.length ≤ 1000) (h : okc z = false) : SFive TE [d] [] (.er TE) []
def keyV : D → NestedKey
  | .str z => .tup [.num (rkN z : Nat), .num (suN z : Nat)]
  | _ => .none
theorem keyV_inj {a b : Str} (ha : okc a = true) (hb : okc b = true) (h : keyV (.str a) = keyV (.str b)) : a = b := by
  obtain ⟨a1, a2, ea, h1, h2⟩ := okc_two ha
  obtain ⟨b1, b2, eb, h3, h4⟩ := okc_two hb
  simp only [keyV, NestedKey.tup.injEq, List.cons.injEq, NestedKey.num.injEq, Int.natCast_inj, and_true] at h
  unfold rkN suN at h
  rw [ea, eb] at h
  obtain ⟨q1, q2⟩ := h
  have q1 : ranksL.idxOf a1 = ranksL.idxOf b1 := by simpa using q1
  have q2 : suitsL.idxOf a2 = suitsL.idxOf b2 := by simpa using q2
  have r1 : a1 = b1 := by
    rw [← List.getElem_idxOf (List.idxOf_lt_length_of_mem h1), ← List.getElem_idxOf (List.idxOf_lt_length_of_mem h3)]
    simp only [q1]
  have r2 : a2 = b2 := by
    rw [← List.getElem_idxOf (List.idxOf_lt_length_of_mem h2), ← List.getElem_idxOf (List.idxOf_lt_length_of_mem h4)]
    simp only [q2]
  have e : a.cps = b.cps := by
    apply Array.toList_inj.mp
    rw [ea, eb, r1, r2]
  cases a
  cases b
  exact congrArg Str.mk e
theorem keys_nodup {zs : List Str} (hok : ∀ z ∈ zs, okc z = true) : ((zs.map Sh.D.str).map keyV).Nodup ↔ zs.Nodup := by
  rw [List.map_map]
  constructor
  · exact fun h => (List.pairwise_map.mp h).imp fun n e => n (by rw [e])
  · intro h
    refine List.pairwise_map.mpr (List.Pairwise.imp_of_mem (fun {a b} ha hb n e => n (keyV_inj (hok a ha) (hok b hb) e)) h)
theorem keys_five {zs : List Str} (hok : ∀ z ∈ zs, okc z = true) : (!decide (((keysOf [] ((zs.map Sh.D.str).map keyV)).length : Int) = 5) || !decide ((zs.length : Int) = 5)) = !decide (zs.length = 5 ∧ zs.Nodup) := by
  have hl : ((zs.map Sh.D.str).map keyV).length = zs.length := by rw [List.length_map, List.length_map]
  by_cases h5 : zs.length = 5
  · by_cases hn : zs.Nodup
    · have := keysOf_all ((zs.map Sh.D.str).map keyV) [] (fun _ _ z => by cases z) ((keys_nodup hok).mpr hn)
      rw [this, List.nil_append, hl, h5, decide_eq_true (show 5 = 5 ∧ zs.Nodup from ⟨rfl, hn⟩)]
      rfl
    · have := (keys_lt_iff ((zs.map Sh.D.str).map keyV)).mpr fun q => hn ((keys_nodup hok).mp q)
      rw [decide_eq_false (show ¬ (zs.length = 5 ∧ zs.Nodup) from fun q => hn q.2), decide_eq_false (show ¬ (((keysOf [] ((zs.map Sh.D.str).map keyV)).length : Int) = 5) by omega)]
      rfl
  · rw [decide_eq_false (show ¬ (zs.length = 5 ∧ zs.Nodup) from fun q => h5 q.1), decide_eq_false (show ¬ ((zs.length : Int) = 5) by omega), Bool.not_false, Bool.or_true]
theorem suit_at {z : Str} (h : okc z = true) : L2.atI z.cps.toList 1 = some (suitsL.getD (suN z) 0) := by
  obtain ⟨a, b, e, _, hb⟩ := okc_two h
  have : suitsL.getD (suN z) 0 = b := by
    unfold suN
    rw [e]
    have q : suitsL.idxOf b < suitsL.length := List.idxOf_lt_length_of_mem hb
    show suitsL.getD (suitsL.idxOf b) 0 = b
    rw [List.getD_eq_getElem?_getD, List.getElem?_eq_getElem q]
    exact List.getElem_idxOf q
  rw [this, e]
  rfl
theorem pairs_at {zs : List Str} {i j : Nat} {k b : Str} (hi : zs[i]? = some k) (hj : zs[j]? = some b) : ∃ post, pairsZ zs zs = pairsZ (zs.take i) zs ++ ((zs.take j).map fun b => (k, b)) ++ (k, b) :: post := by
  have e1 : zs = zs.take i ++ k :: zs.drop (i + 1) := by
    obtain ⟨h, rfl⟩ := List.getElem?_eq_some_iff.mp hi
    rw [List.getElem_cons_drop, List.take_append_drop]
  have e2 : zs = zs.take j ++ b :: zs.drop (j + 1) := by
    obtain ⟨h, rfl⟩ := List.getElem?_eq_some_iff.mp hj
    rw [List.getElem_cons_drop, List.take_append_drop]
  refine ⟨((zs.drop (j + 1)).map fun b => (k, b)) ++ pairsZ (zs.drop (i + 1)) zs, ?_⟩
  have a1 : pairsZ zs zs = pairsZ (zs.take i ++ k :: zs.drop (i + 1)) zs := by rw [← e1]
  rw [a1]
  unfold pairsZ
  rw [List.flatMap_append, List.flatMap_cons]
  have a2 : (zs.map fun b => (k, b)) = ((zs.take j).map fun b => (k, b)) ++ (k, b) :: (zs.drop (j + 1)).map fun b => (k, b) := by
    conv => lhs; rw [e2]
    rw [List.map_append, List.map_cons]
  rw [a2]
  simp only [List.append_assoc, List.cons_append]
theorem hit_at {zs : List Str} {i j : Nat} {k b : Str} (hi : zs[i]? = some k) (hj : zs[j]? = some b) (h1 : ∀ p ∈ pairsZ (zs.take i) zs, fitF p.1 p.2 = false) (h2 : ∀ y ∈ zs.take j, fitF k y = false) (h : fitF k b = true) : hitZ zs = some (k, b) := by
  obtain ⟨post, e⟩ := pairs_at hi hj
  unfold hitZ
  rw [e, List.append_assoc, List.find?_append, List.find?_append]
  have n1 : (pairsZ (zs.take i) zs).find? (fun p => fitF p.1 p.2) = none := List.find?_eq_none.mpr fun p hp => by rw [h1 p hp]; exact Bool.false_ne_true
  have n2 : ((zs.take j).map fun b => (k, b)).find? (fun p => fitF p.1 p.2) = none := List.find?_eq_none.mpr fun p hp => by
    obtain ⟨y, hy, rfl⟩ := List.mem_map.mp hp
    rw [h2 y hy]
    exact Bool.false_ne_true
  rw [n1, n2, Option.none_or, Option.none_or, List.find?_cons, h]
theorem hit_none {zs : List Str} (h : ∀ p ∈ pairsZ zs zs, fitF p.1 p.2 = false) : hitZ zs = none := List.find?_eq_none.mpr fun p hp => by rw [h p hp]; exact Bool.false_ne_true
theorem pairs_snoc {zs : List Str} {i : Nat} {k : Str} (hi : zs[i]? = some k) {p : Str × Str} (hp : p ∈ pairsZ (zs.take (i + 1)) zs) : p ∈ pairsZ (zs.take i) zs ∨ p.1 = k ∧ p.2 ∈ zs := by
  unfold pairsZ at hp ⊢
  rw [List.take_add_one, hi, Option.toList_some, List.flatMap_append, List.mem_append] at hp
  refine hp.imp id fun hp => ?_
  obtain ⟨k', h1, h2⟩ := List.mem_flatMap.mp hp
  rw [List.mem_singleton.mp h1] at h2
  obtain ⟨b, hb, rfl⟩ := List.mem_map.mp h2
  exact ⟨rfl, hb⟩
theorem farZ_pos {k b : Str} (h : fitF k b = true) : 1 ≤ farZ k b ∧ farZ k b ≤ 6 := by
  unfold fitF at h
  simp only [Bool.and_eq_true, decide_eq_true_eq] at h
  exact h.2
theorem butS_eq {zs : List Str} (nd : zs.Nodup) (k b : Str) : butS zs k b = (zs.erase k).erase b := by
  rw [(nd.erase k).erase_eq_filter, nd.erase_eq_filter, List.filter_filter]
  refine List.filter_congr fun z _ => ?_
  by_cases h1 : z = k
  · subst h1; simp
  · by_cases h2 : z = b
    · subst h2; simp
    · simp [h1, h2]
theorem butS_len {zs : List Str} {k b : Str} (nd : zs.Nodup) (hk : k ∈ zs) (hb : b ∈ zs) (hn : k ≠ b) (h5 : zs.length = 5) : (butS zs k b).length = 3 := by
  rw [butS_eq nd, List.length_erase_of_mem ((List.mem_erase_of_ne hn.symm).mpr hb), List.length_erase_of_mem hk, h5]
theorem order_at {n : Nat} (h : n < 6) : L2.atI ordersD ((n : Nat) : Int) = some (.tup ((ordersL.getD n []).map .int)) ∧ (∀ i ∈ ordersL.getD n [], 0 ≤ i ∧ i < 3) ∧ (ordersL.getD n []).length = 3 := by
  match n, h with
  | 0, _ => exact ⟨rfl, by decide, rfl⟩
  | 1, _ => exact ⟨rfl, by decide, rfl⟩
  | 2, _ => exact ⟨rfl, by decide, rfl⟩
  | 3, _ => exact ⟨rfl, by decide, rfl⟩
  | 4, _ => exact ⟨rfl, by decide, rfl⟩
  | 5, _ => exact ⟨rfl, by decide, rfl⟩
def pickD (r : List Str) : Sh.D → Sh.D
  | .int i => .str (r.getD i.toNat "")
  | d => d
end S3
set_option Elab.async false
set_option linter.all false
set_option maxRecDepth 100000
set_option maxHeartbeats 4000000
set_option autoImplicit false
namespace S3
open PySem PySem.Spec PySem.W PyProof.Rows L2 Sh
section
variable {P : Program} {w : World} {K : PySem.W.Frag} {mg : Str → Option Value} {base : Heap} {T : Tb} {TE SE CD : Addr}
theorem keyV_depth (d : Sh.D) : (keyV d).depth ≤ 8 := by
  unfold keyV
  split
  · simp [NestedKey.depth, NestedKey.depthAll]
  · simp [NestedKey.depth]
theorem ok_five {f : Addr} {fd : FuncData} {k : Nat} {c P0 : Addr} (D : Trk K mg TE) (O : Ords K mg) (hval : Fd P w K mg base T "value_of" k 1 (SVal TE)) (tab : fd.code = .ref c ∧ GxR.TabB base mg c P0 ∧ P0 ∈ T.g ∧ P0 ∉ T.l.map (·.1)) (hk : 3 ≤ k) (Fu : Fun K "five_told" "five_told" st_five f fd) : FnOk P w K mg base (L2.CX P w) (k + 3) f fd ["cards"] (spOf K T (SFive TE)) := by
  refine fn_def Fu sc_five (fun ds W o W' h => by cases h <;> rfl) fun cl E ds W o W' h => ?_
  obtain ⟨fv, gv, atv⟩ := hval.at
  obtain ⟨oa, og, orp⟩ := O.ex
  have hval2 := hval.up (Nat.le_add_right k 2)
  obtain ⟨d, dsz, e2, e3, hcase⟩ : ∃ d : Sh.D, ds = [d] ∧ W = [] ∧ W' = [] ∧ ((∃ z zs, SeqF d ((z :: zs).map .str) ∧ z.length ≤ 1000 ∧ okc z = false ∧ o = .er TE) ∨ ∃ zs, SeqF d (zs.map .str) ∧ zs.length ≤ 1000 ∧ (∀ z ∈ zs, okc z = true) ∧ ((¬ (zs.length = 5 ∧ zs.Nodup) ∧ o = .er TE) ∨ (zs.length = 5 ∧ zs.Nodup) ∧ ∃ k b, hitZ zs = some (k, b) ∧ o = .ok (.tup [.str k, .tup ((rowZ zs k b).map .str)]))) := by
    cases h with
    | ok d zs k b hd h5 nd hok h => exact ⟨d, rfl, rfl, rfl, .inr ⟨zs, hd, by omega, hok, .inr ⟨⟨h5, nd⟩, k, b, h, rfl⟩⟩⟩
    | er d zs hd hz hok h => exact ⟨d, rfl, rfl, rfl, .inr ⟨zs, hd, hz, hok, .inl ⟨h, rfl⟩⟩⟩
    | bad d z zs hd hz h => exact ⟨d, rfl, rfl, rfl, .inl ⟨z, zs, hd, hz, h, rfl⟩⟩
  subst dsz e2 e3
  rcases hcase with ⟨z, zs, hd, hz, hbad, rfl⟩ | ⟨zs, hd, hz, hok, hout⟩
  · refine ss_cons (s1_ifE (W1 := []) (et_w (ew_orE (et_cmpE (ev_lenE (by rfl) D.len (ev_dcE (own := [("card", 6)]) rfl sc_five.nd (by rfl) (ei_seq (ev_var 0 rfl (.inl rfl) rfl) hd) trivial fun E' => ⟨_, _, eg_name (fun X h => h) 6 rfl (.inl (by rfl)), ?_⟩))))) ⟨rfl, .nil _⟩)
    exact ev_pure hval2 (show _ ≤ _ from Nat.le_refl _) (by rfl) (ea_cons (ev_var 6 rfl (.inl (by rfl)) rfl) ea_nil) (.er z hz hbad)
  have hdn : ((zs.map Sh.D.str).length : Nat) ≤ 1000 := by rw [List.length_map]; exact hz
  refine ss_cons (s1_if (r := !decide (zs.length = 5 ∧ zs.Nodup)) (ET.to (et_w (ew_or (et_cmpR (ev_lenNN (by rfl) D.len (en_dcN (own := [("card", 6)]) keyV sc_five.nd (by rfl) (ei_seq (ev_var 0 rfl (.inl rfl) rfl) hd) trivial (fun x hx => ?_) (fun x hx => ⟨keyV_depth x, ?_⟩) (Nat.lt_of_le_of_lt hdn (by decide)))) ev_int (.neI _ _)) fun _ => ew_or1 (et_cmpR (ev_len (by rfl) D.len (ev_var 0 rfl (.inl rfl) rfl) (hd.len _)) ev_int (.neI _ _)))) (by rw [List.length_map]; exact keys_five hok)) (fun hr => ?_) fun hr => ss_nil ?_)
  · obtain ⟨z, hzz, rfl⟩ := List.mem_map.mp hx
    exact ⟨_, _, .bl true, eg_name (fun X h => h) 6 rfl (.inl (by rfl)), by decide, ev_pure hval2 (show _ ≤ _ from Nat.le_refl _) (by rfl) (ea_cons (ev_var 6 rfl (.inl (by rfl)) rfl) ea_nil) (.ok z (hok z hzz)), ev_bl⟩
  · obtain ⟨z, hzz, rfl⟩ := List.mem_map.mp hx
    exact ⟨_, rfl⟩
  · have hn : ¬ (zs.length = 5 ∧ zs.Nodup) := of_decide_eq_false (by simpa only [Bool.not_eq_true'] using hr)
    refine ss_one (s1_raise D.err (by rfl) ⟨?_, .nil _⟩)
    rcases hout with ⟨_, q⟩ | ⟨q, _⟩
    · exact q
    · exact absurd q hn
  have hn : zs.length = 5 ∧ zs.Nodup := of_decide_eq_true (by simpa only [Bool.not_eq_false'] using hr)
  obtain ⟨_, kh, bh, hit, rfl⟩ := hout.resolve_left fun q => q.1 hn
  obtain ⟨h5, nd⟩ := hn
  refine ss_cons (s1_for (ei_seq (ev_var 0 rfl (.inl rfl) rfl) hd) (fun i Γ' W' => (∃ x1 x2 x3 x4 x5, Γ' = [some d, x1, x2, x3, x4, x5, none, none]) ∧ W' = [] ∧ ∀ p ∈ pairsZ (zs.take i) zs, fitF p.1 p.2 = false) ⟨⟨_, _, _, _, _, rfl⟩, rfl, fun p hp => by cases hp⟩ (fun _ _ _ _ => trivial) (fun i dk Γ' W' hdk hI => ?_) (fun Γ' W' hI => ?_))
  · obtain ⟨⟨x1, x2, x3, x4, x5, rfl⟩, rfl, hI⟩ := hI
    rw [List.getElem?_map] at hdk
    obtain ⟨kk, hkk, rfl⟩ := Option.map_eq_some_iff.mp hdk
    have hkm : kk ∈ zs := List.mem_of_getElem? hkk
    have hko := hok kk hkm
    refine ⟨_, _, eg_name (fun X h => h.toG) 1 rfl (.inr ⟨rfl, fun X h => h.fn _⟩), ss_one (s1_for (ei_seq (ev_var 0 rfl (.inl rfl) rfl) hd) (fun j Γ' W' => (∃ x2 x3 x4 x5, Γ' = [some d, some (.str kk), x2, x3, x4, x5, none, none]) ∧ W' = [] ∧ ∀ y ∈ zs.take j, fitF kk y = false) ⟨⟨_, _, _, _, rfl⟩, rfl, fun p hp => by cases hp⟩ (fun _ _ _ _ => trivial) (fun j db Γ' W' hdb hJ => ?_) (fun Γ' W' hJ => ?_))⟩
    · obtain ⟨⟨x2, x3, x4, x5, rfl⟩, rfl, hJ⟩ := hJ
      rw [List.getElem?_map] at hdb
      obtain ⟨bb, hbb, rfl⟩ := Option.map_eq_some_iff.mp hdb
      have hbm : bb ∈ zs := List.mem_of_getElem? hbb
      have hbo := hok bb hbm
      have nxt : fitF kk bb = false → ∀ y ∈ zs.take (j + 1), fitF kk y = false := fun hf y hy => by
        rw [List.take_add_one, hbb, Option.toList_some, List.mem_append, List.mem_singleton] at hy
        rcases hy with hy | rfl
        · exact hJ y hy
        · exact hf
      have hlk : kk.length ≤ sizeLine := by rw [okc_len hko]; decide
      have hlb : bb.length ≤ sizeLine := by rw [okc_len hbo]; decide
      refine ⟨_, _, eg_name (fun X h => h.toG) 2 rfl (.inr ⟨rfl, fun X h => h.fn _⟩), ss_one (s1_if (et_w (ew_and (et_cmpR (ev_var 1 rfl (.inr (.inl rfl)) rfl) (ev_var 2 rfl (.inr (.inl rfl)) rfl) (.neS kk bb)) fun _ => ew_and1 (et_cmpR (ev_ix (ev_var 1 rfl (.inr (.inl rfl)) rfl) ev_int (.str hlk (suit_at hko))) (ev_ix (ev_var 2 rfl (.inr (.inl rfl)) rfl) ev_int (.str hlb (suit_at hbo))) (.eqS _ _)))) (fun hr1 => ?_) fun hr1 => ss_nil ⟨⟨_, _, _, _, rfl⟩, rfl, nxt (by unfold fitF; rw [hr1]; rfl)⟩)⟩
      refine ss_cons (s1_set 3 rfl (.inl rfl) (evr_of (ev_bin (ev_bin (ev_ix (ev_pure hval2 (Nat.le_refl _) (by rfl) (ea_cons (ev_var 1 rfl (.inr (.inl rfl)) rfl) ea_nil) (.ok kk hko)) ev_int (.tup (atI_nat (j := 0) rfl))) (ev_ix (ev_pure hval2 (Nat.le_refl _) (by rfl) (ea_cons (ev_var 2 rfl (.inr (.inl rfl)) rfl) ea_nil) (.ok bb hbo)) ev_int (.tup (atI_nat (j := 0) rfl))) (.subI _ _)) ev_int (.modI _ _ (by decide))) ?_))
      show SS _ _ [some d, some (.str kk), some (.str bb), some (.int (farZ kk bb)), x4, x5, none, none] _ _
      refine ss_one (s1_if (et_chain ev_int (ev_var 3 rfl (.inl rfl) rfl) (.leI _ _) (fun _ => ev_int) (fun _ => .leI _ _)) (fun hr2 => ?_) fun hr2 => ss_nil ⟨⟨_, _, _, _, rfl⟩, rfl, nxt (by unfold fitF; rw [hr2, Bool.and_false])⟩)
      have hfit : fitF kk bb = true := by
        unfold fitF
        rw [hr1, hr2]
        rfl
      have hit2 := hit_at hkk hbb hI hJ hfit
      rw [hit] at hit2
      obtain ⟨ek, eb⟩ := Prod.mk.inj (Option.some.inj hit2)
      rw [ek, eb]
      have hne : kk ≠ bb := by
        have := (Bool.and_eq_true _ _).mp hr1
        simpa using this.1
      obtain ⟨f1, f2⟩ := farZ_pos hfit
      obtain ⟨n, hn⟩ : ∃ n : Nat, farZ kk bb = (n : Int) + 1 := ⟨(farZ kk bb).toNat - 1, by omega⟩
      obtain ⟨o1, o2, o3⟩ := order_at (n := n) (by omega)
      have hn1 : (farZ kk bb).toNat - 1 = n := by omega
      have hb3 := butS_len nd hkm hbm hne h5
      have hbo3 : ∀ z ∈ butS zs kk bb, okc z = true := fun z hz => hok z (List.mem_filter.mp hz).1
      have hperm : (restS (butS zs kk bb)).Perm (butS zs kk bb) := List.mergeSort_perm _ _
      have hr3 : (restS (butS zs kk bb)).length = 3 := hperm.length_eq.trans hb3
      refine ss_cons (s1_set 4 rfl (.inr rfl) (evr_of (EN.ev (EN.to (en_sortKey (S := SVal TE) (kd := kdV) (pd := pdV) (zs := butS zs kk bb) (by rfl) D.sorted (by rfl) gv atv (Nat.le_refl _) (EN.ev (EN.to (en_lcF (own := [("card", 6)]) (fun x => if !decide (strD x ∈ ([kk, bb] : List Str)) then some x else none) sc_five.nd (by rfl) (ei_seq (ev_var 0 rfl (.inl rfl) rfl) hd) trivial (fun x hx => ?_) (Nat.lt_of_le_of_lt hdn (by decide))) (filt_strs (fun z => !decide (z ∈ ([kk, bb] : List Str))) zs))) (.lst .lst) (fun x hx => .ok x (hbo3 x hx)) (by rw [hb3]; decide) (fun W x => py_pair _ _) (alike_pair _ _ _) (sortable_pair _ _ _) (fun x hx => by simp [pdV, PyData.depth, PyData.depthAll])) (show _ = (restS (butS zs kk bb)).map Sh.D.str by rw [dleV]; rfl))) ?_))
      · obtain ⟨z, hz2, rfl⟩ := List.mem_map.mp hx
        have hzo := okc_strOk (hok z hz2)
        exact turn_if (r := !decide (z ∈ ([kk, bb] : List Str))) (eg_name (fun X h => h) 6 rfl (.inl (by rfl))) (by decide) (et_cmpR (ev_var 6 rfl (.inl (by rfl)) rfl) (ev_tup (ds := ([kk, bb] : List Str).map .str) (ea_cons (ev_var 1 rfl (.inr (.inl (by rfl))) rfl) (ea_cons (ev_var 2 rfl (.inr (.inl (by rfl))) rfl) ea_nil)) (Nat.le_of_ble_eq_true rfl)) (.niT (.str z) (Py.strsT [kk, bb]) (shaped_str hzo) (shaped_strsT (fun y hy => by
          rcases List.mem_cons.mp hy with rfl | hy
          · exact okc_strOk hko
          · rw [List.mem_singleton.mp hy]
            exact okc_strOk hbo)) (congrArg (!·) (enc_str.any [kk, bb] z)))) fun _ => ev_var 6 rfl (.inl (by rfl)) rfl
      show SS _ _ [some d, some (.str kk), some (.str bb), some (.int (farZ kk bb)), some (.lst ((restS (butS zs kk bb)).map Sh.D.str)), x5, none, none] _ _
      refine ss_cons (s1_set 5 rfl (.inl rfl) (evr_of (ev_ix (ev_glob (v := .ref oa) (by rfl) og rfl orp) (EV.to (d1 := .int (n : Nat)) (ev_bin (ev_var 3 rfl (.inl rfl) rfl) ev_int (.subI _ _)) (by rw [hn]; congr 1; omega)) (.tup o1)) ?_))
      show SS _ _ [some d, some (.str kk), some (.str bb), some (.int (farZ kk bb)), some (.lst ((restS (butS zs kk bb)).map Sh.D.str)), some (.tup ((ordersL.getD n []).map .int)), none, none] _ _
      have hrow : rowZ zs kk bb = bb :: permOf (restS (butS zs kk bb)) (ordersL.getD n []) := by
        unfold rowZ
        rw [hn1]
      rw [hrow]
      generalize ordersL.getD n [] = od at o1 o2 o3 ⊢
      generalize restS (butS zs kk bb) = r at hr3 ⊢
      have hpk : (od.map Sh.D.int).map (pickD r) = (permOf r od).map .str := by
        unfold permOf
        rw [List.map_map, List.map_map]
        rfl
      refine ss_one (s1_ret (evr_of (EV.to (ev_tup (ea_cons (ev_var 1 rfl (.inr (.inl rfl)) rfl) (ea_cons (ev_bin (ev_tup (ea_cons (ev_var 2 rfl (.inr (.inl rfl)) rfl) ea_nil) (Nat.le_of_ble_eq_true rfl)) (ev_tupG (by rfl) D.tuple (gen_hM (own := [("place", 7)]) (pickD r) ⟨c, P0, tab⟩ (Nat.le_trans hk (Nat.le_add_right k 2)) sc_five.nd (by rfl) ⟨rfl, by decide +kernel, by rfl⟩ (ei_seq (ev_var 5 rfl (.inl rfl) rfl) .tup) trivial (fun cd x hx => ?_)) ?_) (.addT _ _ ?_)) ea_nil)) (Nat.le_of_ble_eq_true rfl)) (by rw [hpk]; rfl)) ⟨rfl, .nil _⟩))
      · obtain ⟨i, hi, rfl⟩ := List.mem_map.mp hx
        obtain ⟨i1, i2⟩ := o2 i hi
        obtain ⟨m, rfl⟩ : ∃ m : Nat, i = m := ⟨i.toNat, by omega⟩
        refine turn_map (eg_name (fun X h => h) 7 rfl (.inl (by rfl))) (by decide) (ev_ix (ev_var 4 rfl (.inr (.inr (by rfl))) rfl) (ev_var 7 rfl (.inl (by rfl)) rfl) (.lst .lst (atI_nat ?_)))
        have hm : m < r.length := by omega
        have e : pickD r (Sh.D.int (m : Nat)) = .str (r.getD m "") := rfl
        rw [e, List.getElem?_map, List.getD_eq_getElem?_getD, List.getElem?_eq_getElem hm]
        rfl
      · rw [List.length_map, List.length_map, o3]
        decide
      · rw [List.length_map, List.length_map, o3]
        exact Nat.le_of_ble_eq_true rfl
    · obtain ⟨⟨x2, x3, x4, x5, rfl⟩, rfl, hJ⟩ := hJ
      rw [List.length_map, List.take_of_length_le (Nat.le_refl _)] at hJ
      refine ⟨⟨_, _, _, _, _, rfl⟩, rfl, fun p hp => ?_⟩
      rcases pairs_snoc hkk hp with hp | ⟨e1, hp⟩
      · exact hI p hp
      · rw [e1]
        exact hJ _ hp
  · obtain ⟨⟨x1, x2, x3, x4, x5, rfl⟩, rfl, hI⟩ := hI
    rw [List.length_map, List.take_of_length_le (Nat.le_refl _)] at hI
    rw [hit_none hI] at hit
    cases hit
end
end S3
set_option Elab.async false
set_option linter.all false
set_option maxRecDepth 100000
set_option maxHeartbeats 4000000
set_option autoImplicit false
namespace S3
open PySem PySem.Spec PySem.W PyProof.Rows L2 Sh
section
variable {P : Program} {w : World} {K : PySem.W.Frag} {mg : Str → Option Value} {base : Heap} {T : Tb} {TE SE CD : Addr}
abbrev st_lfive : Stmt := topS 36
theorem sc_lfive : FnScope ["cards", "kept", "base", "far", "low", "mid", "high", "rest", "card"] ["cards"] (defScope st_lfive) := ⟨rfl, rfl, rfl, by decide +kernel, rfl, by decide +kernel, by decide +kernel⟩
inductive SLFive : Law
  | ok (d : D) (zs : List Str) (k b : Str) (hd : SeqF d (zs.map .str)) (h5 : zs.length = 5) (nd : zs.Nodup) (hok : ∀ z ∈ zs, okc z = true) (h : hitZ zs = some (k, b)) : SLFive [d] [] (.ok (.tup [.str k, .tup ((rowZ zs k b).map .str)])) []
theorem perm_at {n : Nat} (h : n < 6) (x y z : Str) : L2.atI [Sh.D.tup [.str x, .str y, .str z], .tup [.str x, .str z, .str y], .tup [.str y, .str x, .str z], .tup [.str y, .str z, .str x], .tup [.str z, .str x, .str y], .tup [.str z, .str y, .str x]] ((n : Nat) : Int) = some (.tup ((permOf [x, y, z] (ordersL.getD n [])).map .str)) := by
  match n, h with
  | 0, _ => rfl
  | 1, _ => rfl
  | 2, _ => rfl
  | 3, _ => rfl
  | 4, _ => rfl
  | 5, _ => rfl
theorem ok_lfive {f : Addr} {fd : FuncData} {k : Nat} (hsorted : mg "sorted" = none) (hkey : Fd P w K mg base T "_law_key" k 1 SLKey) (Fu : Fun K "_law_five" "_law_five" st_lfive f fd) : FnOk P w K mg base (L2.CX P w) (k + 3) f fd ["cards"] (spOf K T SLFive) := by
  refine fn_def Fu sc_lfive (fun ds W o W' h => by cases h <;> rfl) fun cl E ds W o W' h => ?_
  obtain ⟨fv, gv, atv⟩ := hkey.at
  cases h with
  | ok d zs kh bh hd h5 nd hok hit =>
  have hdn : ((zs.map Sh.D.str).length : Nat) ≤ 1000 := by rw [List.length_map, h5]; decide
  refine ss_cons (s1_for (ei_seq (ev_var 0 rfl (.inl rfl) rfl) hd) (fun i Γ' W' => (∃ x1 x2 x3 x4 x5 x6 x7, Γ' = [some d, x1, x2, x3, x4, x5, x6, x7, none]) ∧ W' = [] ∧ ∀ p ∈ pairsZ (zs.take i) zs, fitF p.1 p.2 = false) ⟨⟨_, _, _, _, _, _, _, rfl⟩, rfl, fun p hp => by cases hp⟩ (fun _ _ _ _ => trivial) (fun i dk Γ' W' hdk hI => ?_) (fun Γ' W' hI => ?_))
  · obtain ⟨⟨x1, x2, x3, x4, x5, x6, x7, rfl⟩, rfl, hI⟩ := hI
    rw [List.getElem?_map] at hdk
    obtain ⟨kk, hkk, rfl⟩ := Option.map_eq_some_iff.mp hdk
    have hkm : kk ∈ zs := List.mem_of_getElem? hkk
    have hko := hok kk hkm
    refine ⟨_, _, eg_name (fun X h => h.toG) 1 rfl (.inr ⟨rfl, fun X h => h.fn _⟩), ss_one (s1_for (ei_seq (ev_var 0 rfl (.inl rfl) rfl) hd) (fun j Γ' W' => (∃ x2 x3 x4 x5 x6 x7, Γ' = [some d, some (.str kk), x2, x3, x4, x5, x6, x7, none]) ∧ W' = [] ∧ ∀ y ∈ zs.take j, fitF kk y = false) ⟨⟨_, _, _, _, _, _, rfl⟩, rfl, fun p hp => by cases hp⟩ (fun _ _ _ _ => trivial) (fun j db Γ' W' hdb hJ => ?_) (fun Γ' W' hJ => ?_))⟩
    · obtain ⟨⟨x2, x3, x4, x5, x6, x7, rfl⟩, rfl, hJ⟩ := hJ
      rw [List.getElem?_map] at hdb
      obtain ⟨bb, hbb, rfl⟩ := Option.map_eq_some_iff.mp hdb
      have hbm : bb ∈ zs := List.mem_of_getElem? hbb
      have hbo := hok bb hbm
      have nxt : fitF kk bb = false → ∀ y ∈ zs.take (j + 1), fitF kk y = false := fun hf y hy => by
        rw [List.take_add_one, hbb, Option.toList_some, List.mem_append, List.mem_singleton] at hy
        rcases hy with hy | rfl
        · exact hJ y hy
        · exact hf
      have hlk : kk.length ≤ sizeLine := by rw [okc_len hko]; decide
      have hlb : bb.length ≤ sizeLine := by rw [okc_len hbo]; decide
      obtain ⟨k1, k2, ek, hk1, hk2⟩ := okc_two hko
      obtain ⟨b1, b2, eb, hb1, hb2⟩ := okc_two hbo
      obtain ⟨rk, ok1⟩ := head_rest (rk_occ k1 hk1)
      obtain ⟨rb, ob1⟩ := head_rest (rk_occ b1 hb1)
      have hfar : ((ranksL.idxOf k1 : Nat) : Int) - ((ranksL.idxOf b1 : Nat) : Int) = (rkN kk : Int) - (rkN bb : Int) := by
        unfold rkN
        rw [ek, eb]
        simp only [List.getD_cons_zero]
        omega
      refine ⟨_, _, eg_name (fun X h => h.toG) 2 rfl (.inr ⟨rfl, fun X h => h.fn _⟩), ss_cons (s1_set 3 rfl (.inl rfl) (evr_of (EV.to (d1 := .int (farZ kk bb)) (ev_bin (ev_bin (ev_sindex ev_str (ev_ix (ev_var 1 rfl (.inr (.inl rfl)) rfl) ev_int (.str hlk (c := k1) (by rw [ek]; rfl))) ok1) (ev_sindex ev_str (ev_ix (ev_var 2 rfl (.inr (.inl rfl)) rfl) ev_int (.str hlb (c := b1) (by rw [eb]; rfl))) ob1) (.subI _ _)) ev_int (.modI _ _ (by decide))) (by rw [hfar]; rfl)) ?_))⟩
      show SS _ _ [some d, some (.str kk), some (.str bb), some (.int (farZ kk bb)), x4, x5, x6, x7, none] _ _
      refine ss_one (s1_if (r := fitF kk bb) (ET.to (et_w (ew_and (et_cmpR (ev_var 1 rfl (.inr (.inl rfl)) rfl) (ev_var 2 rfl (.inr (.inl rfl)) rfl) (.neS kk bb)) fun _ => ew_and (et_cmpR (ev_ix (ev_var 1 rfl (.inr (.inl rfl)) rfl) ev_int (.str hlk (suit_at hko))) (ev_ix (ev_var 2 rfl (.inr (.inl rfl)) rfl) ev_int (.str hlb (suit_at hbo))) (.eqS _ _)) fun _ => ew_and1 (et_chain ev_int (ev_var 3 rfl (.inl rfl) rfl) (.leI _ _) (fun _ => ev_int) (fun _ => .leI _ _)))) (by unfold fitF; rw [Bool.and_assoc])) (fun hfit => ?_) fun hr2 => ss_nil ⟨⟨_, _, _, _, _, _, rfl⟩, rfl, nxt hr2⟩)
      have hit2 := hit_at hkk hbb hI hJ hfit
      rw [hit] at hit2
      obtain ⟨ek, eb⟩ := Prod.mk.inj (Option.some.inj hit2)
      rw [ek, eb]
      have hne : kk ≠ bb := by
        unfold fitF at hfit
        simp only [Bool.and_eq_true] at hfit
        simpa using hfit.1.1
      obtain ⟨f1, f2⟩ := farZ_pos hfit
      obtain ⟨n, hn⟩ : ∃ n : Nat, farZ kk bb = (n : Int) + 1 := ⟨(farZ kk bb).toNat - 1, by omega⟩
      have hn1 : (farZ kk bb).toNat - 1 = n := by omega
      have hb3 := butS_len nd hkm hbm hne h5
      have hbo3 : ∀ z ∈ butS zs kk bb, okc z = true := fun z hz => hok z (List.mem_filter.mp hz).1
      have hperm : (restS (butS zs kk bb)).Perm (butS zs kk bb) := List.mergeSort_perm _ _
      have hr3 : (restS (butS zs kk bb)).length = 3 := hperm.length_eq.trans hb3
      have hrow : rowZ zs kk bb = bb :: permOf (restS (butS zs kk bb)) (ordersL.getD n []) := by
        unfold rowZ
        rw [hn1]
      rw [hrow]
      obtain ⟨x, y, z, hr⟩ : ∃ x y z, restS (butS zs kk bb) = [x, y, z] := by
        match restS (butS zs kk bb), hr3 with
        | [x, y, z], _ => exact ⟨x, y, z, rfl⟩
      rw [hr]
      refine ss_cons (s1_asgC (evr_of (EN.ev (EN.to (en_sortKey (S := SLKey) (kd := kdL) (pd := pdL) (zs := butS zs kk bb) (by rfl) hsorted (by rfl) gv atv (Nat.le_refl _) (EN.ev (EN.to (en_lcF (own := [("card", 8)]) (fun x => if !decide (strD x ∈ ([kk, bb] : List Str)) then some x else none) sc_lfive.nd (by rfl) (ei_seq (ev_var 0 rfl (.inl rfl) rfl) hd) trivial (fun x hx => ?_) (Nat.lt_of_le_of_lt hdn (by decide))) (filt_strs (fun z => !decide (z ∈ ([kk, bb] : List Str))) zs))) (.lst .lst) (fun x hx => .mk x (hbo3 x hx)) (by rw [hb3]; decide) (fun W x => py_pair _ _) (alike_pair _ _ _) (sortable_pair _ _ _) (fun x hx => by simp [pdL, PyData.depth, PyData.depthAll])) (show _ = ([x, y, z] : List Str).map Sh.D.str by rw [← hr, dleL]; rfl))) ⟨_, _, eg_lst (fun X h => h.toG) (egs_cons (eg_name (fun X h => h.toG) 4 rfl (.inl rfl)) (egs_cons (eg_name (fun X h => h.toG) 5 rfl (.inl rfl)) (egs_cons (eg_name (fun X h => h.toG) 6 rfl (.inl rfl)) egs_nil))) rfl, ?_⟩) (fun env he => ?_))
      · obtain ⟨z, hz2, rfl⟩ := List.mem_map.mp hx
        have hzo := okc_strOk (hok z hz2)
        exact turn_if (r := !decide (z ∈ ([kk, bb] : List Str))) (eg_name (fun X h => h) 8 rfl (.inl (by rfl))) (by decide) (et_cmpR (ev_var 8 rfl (.inl (by rfl)) rfl) (EN.ev (en_lst (ds := ([kk, bb] : List Str).map .str) (ea_cons (ev_var 1 rfl (.inr (.inl (by rfl))) rfl) (ea_cons (ev_var 2 rfl (.inr (.inl (by rfl))) rfl) ea_nil)) (Nat.le_of_ble_eq_true rfl))) (.niL (.str z) (Py.strsL [kk, bb]) (shaped_str hzo) (shaped_strsL (fun y hy => by
          rcases List.mem_cons.mp hy with rfl | hy
          · exact okc_strOk hko
          · rw [List.mem_singleton.mp hy]
            exact okc_strOk hbo)) (congrArg (!·) (enc_str.any [kk, bb] z)))) fun _ => ev_var 8 rfl (.inl (by rfl)) rfl
      · show SS _ _ [some d, some (.str kk), some (.str bb), some (.int (farZ kk bb)), some (.str x), some (.str y), some (.str z), x7, none] _ _
        have t3 : ∀ {G : CF} {Γ : Ga} {y1 y2 y3 : Str} {n : Nat} {p p1 p2 p3 : Pos} {a b c : Str}, EV G (.Name y1 p1) Γ [] (.ok (.str a)) [] → EV G (.Name y2 p2) Γ [] (.ok (.str b)) [] → EV G (.Name y3 p3) Γ [] (.ok (.str c)) [] → EV G (.Tuple [.Name y1 p1, .Name y2 p2, .Name y3 p3] n p) Γ [] (.ok (.tup [.str a, .str b, .str c])) [] := fun h1 h2 h3 => ev_tup (ea_cons h1 (ea_cons h2 (ea_cons h3 ea_nil))) (Nat.le_of_ble_eq_true rfl)
        refine ss_cons (s1_set 7 rfl (.inl rfl) (evr_of (ev_ix (EN.ev (en_lst (ea_cons (t3 (ev_var 4 rfl (.inl rfl) rfl) (ev_var 5 rfl (.inl rfl) rfl) (ev_var 6 rfl (.inl rfl) rfl)) (ea_cons (t3 (ev_var 4 rfl (.inl rfl) rfl) (ev_var 6 rfl (.inl rfl) rfl) (ev_var 5 rfl (.inl rfl) rfl)) (ea_cons (t3 (ev_var 5 rfl (.inl rfl) rfl) (ev_var 4 rfl (.inl rfl) rfl) (ev_var 6 rfl (.inl rfl) rfl)) (ea_cons (t3 (ev_var 5 rfl (.inl rfl) rfl) (ev_var 6 rfl (.inl rfl) rfl) (ev_var 4 rfl (.inl rfl) rfl)) (ea_cons (t3 (ev_var 6 rfl (.inl rfl) rfl) (ev_var 4 rfl (.inl rfl) rfl) (ev_var 5 rfl (.inl rfl) rfl)) (ea_cons (t3 (ev_var 6 rfl (.inl rfl) rfl) (ev_var 5 rfl (.inl rfl) rfl) (ev_var 4 rfl (.inl rfl) rfl)) ea_nil)))))) (Nat.le_of_ble_eq_true rfl))) (EV.to (d1 := .int (n : Nat)) (ev_bin (ev_var 3 rfl (.inl rfl) rfl) ev_int (.subI _ _)) (by rw [hn]; congr 1; omega)) (.lst .lst (perm_at (by omega) x y z))) ?_))
        have hpl : (permOf [x, y, z] (ordersL.getD n [])).length = 3 := by
          unfold permOf
          rw [List.length_map]
          exact (order_at (n := n) (by omega)).2.2
        refine ss_one (s1_ret (evr_of (ev_tup (ea_cons (ev_var 1 rfl (.inr (.inl rfl)) rfl) (ea_cons (ev_bin (ev_tup (ea_cons (ev_var 2 rfl (.inr (.inl rfl)) rfl) ea_nil) (Nat.le_of_ble_eq_true rfl)) (ev_var 7 rfl (.inl rfl) rfl) (.addT _ _ ?_)) ea_nil)) (Nat.le_of_ble_eq_true rfl)) ⟨rfl, .nil _⟩))
        rw [List.length_map, hpl]
        exact Nat.le_of_ble_eq_true rfl
      · obtain ⟨a1, a2, a3, a4, a5, a6, a7, a8, a9⟩ := env
        cases he
        rfl
    · obtain ⟨⟨x2, x3, x4, x5, x6, x7, rfl⟩, rfl, hJ⟩ := hJ
      rw [List.length_map, List.take_of_length_le (Nat.le_refl _)] at hJ
      refine ⟨⟨_, _, _, _, _, _, _, rfl⟩, rfl, fun p hp => ?_⟩
      rcases pairs_snoc hkk hp with hp | ⟨e1, hp⟩
      · exact hI p hp
      · rw [e1]
        exact hJ _ hp
  · obtain ⟨⟨x1, x2, x3, x4, x5, x6, x7, rfl⟩, rfl, hI⟩ := hI
    rw [List.length_map, List.take_of_length_le (Nat.le_refl _)] at hI
    rw [hit_none hI] at hit
    cases hit
end
end S3
set_option Elab.async false
set_option linter.all false
set_option maxRecDepth 100000
set_option maxHeartbeats 2000000
set_option autoImplicit false
namespace S3
open PySem PySem.Spec PySem.W PyProof.Rows L2 Sh
abbrev st_law : Stmt := topS 38
abbrev NL : List Str := (["script", "order", "dice", "cards", "card", "answers", "here", "turn", "place", "some", "mixed", "answer", "kinds", "pieces", "whole", "stack", "many", "word", "mine", "woven"] : List Str) ++ (["left", "right", "due", "sign", "row", "names", "good", "fits", "five", "kept", "letters", "number", "deck", "turned", "pairs", "heap", "k", "one", "kind"] : List Str)
theorem sc_law : FnScope NL ["script"] (defScope st_law) := ⟨rfl, rfl, rfl, by decide +kernel, rfl, by decide +kernel, by decide +kernel⟩
def forBody : Stmt → List Stmt
  | .For _ _ b _ _ => b
  | _ => []
def lawBody : List Stmt := forBody ((defBody st_law).getD 1 (.Pass ⟨0, 0, 0, 0⟩))
abbrev W3 (L p : Addr) (s : Dice) (W0 : OW) : OW := (L, .lst [.ptr p]) :: (p, diceA s) :: W0
/-- the slots: what is known, then nothing -/
abbrev GL (l : List (Option D)) : Ga := l ++ List.replicate (39 - l.length) none
inductive SPlain : Law
  | ok : SPlain [] [] (.ok (.bl true)) []
/-- what the law calls -/
structure LawK (P : Program) (w : World) (K : PySem.W.Frag) (mg : Str → Option Value) (base : Heap) (T : Tb) (k : Nat) (TE SE CD CS : Addr) : Prop where
  D : Trk K mg TE
  str : mg "str" = none
  int : mg "int" = none
  max : mg "max" = none
  dict : mg "dict" = none
  enum : mg "enumerate" = none
  exT : PySem.W.exmOne K (.ref TE) (.ref CS) = some true
  exS : PySem.W.exmOne K (.ref SE) (.ref CS) = some true
  exD : PySem.W.exmOne K (.ref CD) (.ref CS) = some true
  roll : Fd P w K mg base T "_law_roll" k 2 SRoll
  mixed : Fd P w K mg base T "_law_mixed" k 3 SMix
  deck : Fd P w K mg base T "_law_deck" k 0 SLDeck
  rounds : FdR P w K mg base T "_law_rounds" k 2 (SRounds K T)
  told : Sh.Told P w K mg "_law_told" CS "CardError"
  lheaps : Fd P w K mg base T "_law_heaps" k 2 SLHeaps
  lkey : Fd P w K mg base T "_law_key" k 1 SLKey
  lfive : Fd P w K mg base T "_law_five" k 1 SLFive
  three : Fd P w K mg base T "three_heaps" k 2 (SThree TE)
  ans : Fd P w K mg base T "answers_for" k 3 (SAns TE)
  pair : Fd P w K mg base T "is_paired" k 2 (SPair TE)
  magic : Fd P w K mg base T "magic_riffle" k 3 (SMagic TE SE)
  col : Fd P w K mg base T "colours_of" k 1 (SCol CD)
  piano : Fd P w K mg base T "piano" k 2 (SPiano TE)
  spell : Fd P w K mg base T "spelled" k 2 (SSpell TE)
  five : Fd P w K mg base T "five_told" k 1 (SFive TE)
  value : Fd P w K mg base T "value_of" k 1 (SVal TE)
  toldby : Fd P w K mg base T "told_by" k 1 (SToldBy TE)
theorem LawK.mono {P : Program} {w : World} {K : PySem.W.Frag} {mg : Str → Option Value} {base : Heap} {T : Tb} {TE SE CD CS : Addr} {k j : Nat} (L : LawK P w K mg base T k TE SE CD CS) (h : k ≤ j) : LawK P w K mg base T j TE SE CD CS :=
  ⟨L.D, L.str, L.int, L.max, L.dict, L.enum, L.exT, L.exS, L.exD, L.roll.up h, L.mixed.up h, L.deck.up h, L.rounds.imp h, L.told, L.lheaps.up h, L.lkey.up h, L.lfive.up h, L.three.up h, L.ans.up h, L.pair.up h, L.magic.up h, L.col.up h, L.piano.up h, L.spell.up h, L.five.up h, L.value.up h, L.toldby.up h⟩
def nat12 (s : Dice) (n : Nat) : Nat := (rollV s n).toNat
theorem nat12_eq (s : Dice) {n : Nat} (h : 0 < n) : nat12 s n < n ∧ rollV s n = ((nat12 s n : Nat) : Int) := roll_lt s h
theorem shaped_intsT (ns : List Int) : SeqAt.shaped (.tuple (ns.map .int)) = true := enc_int.tup.shaped (by decide) (fun _ _ => trivial)
theorem Row.neT {W : OW} {ds : List D} (h : Row ds) : CmpR W .NotEq (.tup ds) (.tup ds) false := by
  rcases h.as with ⟨zs, rfl, hz⟩ | ⟨ns, rfl⟩
  · exact .neD (Py.strsT zs) (Py.strsT zs) (shaped_strsT hz) (shaped_strsT hz) (by rw [enc_str.tup.eq]; simp)
  · exact .neD (Py.intsT ns) (Py.intsT ns) (shaped_intsT ns) (shaped_intsT ns) (by rw [enc_int.tup.eq]; simp)
section
variable {P : Program} {w : World} {K : PySem.W.Frag} {mg : Str → Option Value} {base : Heap} {T : Tb} {TE SE CD CS : Addr}
theorem roll_law {F : CF} {Γ : Ga} {W0 : OW} {L p : Addr} {s : Dice} {p1 p2 p3 pos : Pos} {j : Nat} {n : Nat} (hroll : F.Fd "_law_roll" F.k 2 SRoll) (hN : F.N[2]? = some ("dice" : Str)) (hv : VisS F.sc "dice") (hΓ : Γ[2]? = some (some (.ptr p))) (hg : GlS F "_law_roll") (h0 : 0 < n) (h1 : n ≤ 100000000) :
    EV F (.Call (.Name "_law_roll" p1) [.Name "dice" p2, .Constant (.int (n : Nat)) j p3] [] pos) Γ (W3 L p s W0) (.ok (.int (nat12 s n : Nat))) (W3 L p (rollN s n) W0) :=
  EV.to (ev_at (i := 1) (m := diceA s) hroll (Nat.le_refl _) hg (ea_cons (ev_var 2 hN hv hΓ) (ea_cons ev_int ea_nil)) rfl (.mk p s n (by omega) (by omega))) (congrArg Sh.D.int (nat12_eq s h0).2)
abbrev FL (P : Program) (w : World) (K : PySem.W.Frag) (mg : Str → Option Value) (base : Heap) (T : Tb) (k : Nat) (cd : Value) (E : XK) (cl : List (Str × Addr)) : CF := ⟨P, w, K, mg, base, NL, defScope st_law, k, cd, E, T, "law" ++ ".<locals>.", some cl⟩
theorem deck_len : deckS.length = 52 := by decide
theorem mix_ev {F : CF} {Γ : Ga} {W0 : OW} {L p : Addr} {s : Dice} {xs : List Str} {m : Int} {p1 p2 pos : Pos} {e1 e2 : Expr} {s' : Dice} (hmix : F.Fd "_law_mixed" F.k 3 SMix) (hN : F.N[2]? = some ("dice" : Str)) (hv : VisS F.sc "dice") (hΓ : Γ[2]? = some (some (.ptr p))) (hg : GlS F "_law_mixed") (hz : xs.length ≤ 1000) (h0 : 0 ≤ m) (h1 : m ≤ 100000000)
    (ha : EA F [e1, e2] Γ (W3 L p s W0) (.ok [.lst (xs.map .str), .int m]) (W3 L p s' W0)) (he1 : ∀ env, starEach [.Name "dice" p2, e1, e2] env = (false, eval (.Name "dice" p2) env) :: starEach [e1, e2] env := by intro _; rfl) (hpl : ∀ env, (backTo pos (starEach [e1, e2] env)).any (·.1) = false := by intro _; rfl) :
    EV F (.Call (.Name "_law_mixed" p1) [.Name "dice" p2, e1, e2] [] pos) Γ (W3 L p s W0) (.ok (.lst ((mixS s' xs (mixM m xs.length)).2.2.map .str))) (W3 L p (mixS s' xs (mixM m xs.length)).1 W0) := by
  have h := ev_at (pos := pos) (p := p1) (i := 1) (m := diceA s') hmix (Nat.le_refl _) hg (ea_cons (ev_var 2 hN hv hΓ) ha he1) rfl (.mk p s' (.lst (xs.map .str)) (xs.map .str) m .lst (by rw [List.length_map]; exact hz) h0 h1) (he := he1) (hpl := hpl)
  have hm : mixM m (xs.map Sh.D.str).length ≤ xs.length := by
    rw [List.length_map]
    unfold mixM
    omega
  rw [mixAt_str s' xs _ hm, List.length_map] at h
  exact h
theorem row_cards {cs : List Str} (h : rowOk cs = true) : Row (cs.map D.str) := Row.strs fun z hz => okc_strOk (rowOk_all h z hz)
end
end S3
set_option Elab.async false
set_option linter.all false
set_option maxRecDepth 100000
set_option maxHeartbeats 2000000
set_option autoImplicit false
namespace S3
open PySem PySem.Spec PySem.W PyProof.Rows L2 Sh
/-! the chosen card comes to the middle -/
theorem range_row {α : Type} (xs : List α) (x0 : α) : xs = (List.range xs.length).map fun i => xs.getD i x0 := by
  refine List.ext_getElem? fun i => ?_
  rw [List.getElem?_map]
  by_cases h : i < xs.length
  · rw [List.getElem?_range h, List.getElem?_eq_getElem h]
    simp [List.getD_eq_getElem?_getD, List.getElem?_eq_getElem h]
  · rw [List.getElem?_eq_none_iff.mpr (by omega), List.getElem?_eq_none_iff.mpr (by simp; omega)]
    rfl
theorem heapS_nodup {α : Type} {xs : List α} (x0 : α) (h : xs.Nodup) (hl : xs.length = 21) {a : Nat} (ha : a < 3) : (heapS xs a).Nodup := by
  have e := range_row xs x0
  rw [e, heap_map]
  have hn : ∀ a, a < 3 → (heapS (List.range 21) a).Nodup := by decide +kernel
  have hm : ∀ i ∈ heapS (List.range 21) a, i < 21 := fun i hi => List.mem_range.mp (heapS_mem hi)
  rw [hl]
  refine List.pairwise_map.mpr (List.Pairwise.imp_of_mem (fun {i j} hi hj n q => n ?_) (hn a ha))
  have hi := hm i hi
  have hj := hm j hj
  rw [List.getD_eq_getElem?_getD, List.getD_eq_getElem?_getD, List.getElem?_eq_getElem (by omega), List.getElem?_eq_getElem (by omega)] at q
  exact (List.getElem_inj h).mp q
theorem strided_at {α : Type} {xs : List α} (x0 : α) (hl : xs.length = 21) {q m : Nat} (hq : q < 3) (hm : m < 7) : (StepS.strided xs q 3)[m]? = xs[q + m * 3]? := by
  have e := range_row xs x0
  have h21 : ∀ q, q < 3 → ∀ m, m < 7 → (StepS.strided (List.range 21) q 3)[m]? = some (q + m * 3) := by decide +kernel
  rw [e, hl, show StepS.strided ((List.range 21).map fun i => xs.getD i x0) q 3 = (StepS.strided (List.range 21) q 3).map fun i => xs.getD i x0 from (strided_map _ _ _ _).symm ▸ rfl, List.getElem?_map, h21 q hq m hm, List.getElem?_map, List.getElem?_range (by omega)]
theorem which_at {hs : List Str} {c : Str} (hn : hs.Nodup) (hl : hs.length = 21) {p : Nat} (hp : hs[p]? = some c) : whichN hs c = p % 3 ∧ (heapS hs (p % 3))[7 + p / 3]? = some c := by
  have hlt := (List.getElem?_eq_some_iff.mp hp).1
  obtain ⟨w1, w2, _⟩ := which_ok (List.mem_of_getElem? hp) hl
  constructor
  · obtain ⟨m, hm⟩ := List.getElem?_of_mem w2
    have hm7 := (List.getElem?_eq_some_iff.mp hm).1
    rw [strided_seven hs hl _ w1] at hm7
    rw [strided_at ("" : Str) hl w1 hm7] at hm
    have := (List.getElem?_inj hlt hn).mp (hp.trans hm.symm)
    omega
  · have h3 : p % 3 < 3 := Nat.mod_lt _ (by decide)
    have ho : (othersN (p % 3)).1 < 3 := by
      unfold othersN
      split
      · decide
      · split <;> decide
    unfold heapS
    rw [List.append_assoc, List.getElem?_append_right (by rw [strided_seven hs hl _ ho]; omega), strided_seven hs hl _ ho, List.getElem?_append_left (by rw [strided_seven hs hl _ h3]; omega), strided_at ("" : Str) hl h3 (by omega), show p % 3 + (7 + p / 3 - 7) * 3 = p by omega]
    exact hp
theorem three_mid {cs : List Str} {c : Str} (hn : cs.Nodup) (hl : cs.length = 21) (hc : c ∈ cs) : (threeS cs (ansS cs c 3))[10]? = some c := by
  obtain ⟨p, hp⟩ := List.getElem?_of_mem hc
  have hlt := (List.getElem?_eq_some_iff.mp hp).1
  have step : ∀ (hs : List Str) (q : Nat), hs.Nodup → hs.length = 21 → hs[q]? = some c → (heapS hs (whichN hs c)).Nodup ∧ (heapS hs (whichN hs c)).length = 21 ∧ (heapS hs (whichN hs c))[7 + q / 3]? = some c := fun hs q h1 h2 h3 => by
    obtain ⟨e1, e2⟩ := which_at h1 h2 h3
    rw [e1]
    exact ⟨heapS_nodup ("" : Str) h1 h2 (Nat.mod_lt _ (by decide)), heapS_len hs h2 _ (Nat.mod_lt _ (by decide)), e2⟩
  have e0 : threeS cs (ansS cs c 0) = cs := rfl
  have es : ∀ i, threeS cs (ansS cs c (i + 1)) = heapS (threeS cs (ansS cs c i)) (whichN (threeS cs (ansS cs c i)) c) := fun i => three_snoc cs _ _
  obtain ⟨a1, a2, a3⟩ := step _ p hn hl hp
  rw [← e0, ← es 0] at a1 a2 a3
  obtain ⟨b1, b2, b3⟩ := step _ _ a1 a2 a3
  rw [← es 1] at b1 b2 b3
  obtain ⟨c1, c2, c3⟩ := step _ _ b1 b2 b3
  rw [← es 2] at c3
  rw [show 7 + (7 + (7 + p / 3) / 3) / 3 = 10 by omega] at c3
  exact c3
end S3
set_option Elab.async false
set_option linter.all false
set_option maxRecDepth 100000
set_option maxHeartbeats 4000000
set_option autoImplicit false
namespace S3
open PySem PySem.Spec PySem.W PyProof.Rows L2 Sh
theorem strs_ne {W : OW} (zs : List Str) (h : ∀ z ∈ zs, PyData.strOk z = true) : CmpR W .NotEq (.lst (zs.map .str)) (.lst (zs.map .str)) false := .neD (Py.strsL zs) (Py.strsL zs) (shaped_strsL h) (shaped_strsL h) (by rw [enc_str.list.eq]; simp)
theorem ints_ne {W : OW} (ns : List Int) : CmpR W .NotEq (.tup (ns.map .int)) (.tup (ns.map .int)) false := .neD (Py.intsT ns) (Py.intsT ns) (shaped_intsT ns) (shaped_intsT ns) (by rw [enc_int.tup.eq]; simp)
section
variable {P : Program} {w : World} {K : PySem.W.Frag} {mg : Str → Option Value} {base : Heap} {T : Tb} {TE SE CD CS : Addr}
theorem law_a {k : Nat} {cd : Value} {E : XK} {cl : List (Str × Addr)} {A : AE} (L0 : LawK P w K mg base T k TE SE CD CS) {q L p : Addr} {s : Dice} {W0 : OW}
    (h : ∀ (s' : Dice) (cs : List Str) (c : Str) (x5 x6 x7 x8 : Option D), rowOk cs = true → cs.length = 21 → SS (FL P w K mg base T k cd E cl) (lawBody.drop 4) (GL [some (.ptr q), some (.lst deckD), some (.ptr p), some (.lst (cs.map .str)), some (.str c), x5, x6, x7, x8]) (W3 L p s' W0) A) :
    SS (FL P w K mg base T k cd E cl) lawBody (GL [some (.ptr q), some (.lst deckD), some (.ptr p)]) (W3 L p s W0) A := by
  have hm1 : mixM 21 deckS.length = 21 := by rw [deck_len]; decide
  obtain ⟨c1, c2⟩ := mixS_ok s deck_ok (i := 21) (by rw [deck_len]; decide)
  refine ss_cons (s1_set 3 rfl (.inl rfl) (evr_of (mix_ev (xs := deckS) (m := 21) L0.mixed rfl (.inr (.inl rfl)) rfl (by rfl) (by rw [deck_len]; decide) (by decide) (by decide) (ea_cons (ev_var 1 rfl (.inl rfl) rfl) (ea_cons ev_int ea_nil))) ?_))
  rw [hm1]
  generalize hcs : (mixS s deckS 21).2.2 = cs at c1 c2 ⊢
  generalize (mixS s deckS 21).1 = s1
  have hnd := rowOk_nodup c1
  have hok := rowOk_all c1
  have hst : ∀ z ∈ cs, PyData.strOk z = true := fun z hz => okc_strOk (hok z hz)
  have r21 := (nat12_eq s1 (n := 21) (by decide)).1
  obtain ⟨c, hc⟩ : ∃ c, cs[nat12 s1 21]? = some c := ⟨_, List.getElem?_eq_getElem (by omega)⟩
  have hcm : c ∈ cs := List.mem_of_getElem? hc
  have hat : L2.atI (cs.map Sh.D.str) ((nat12 s1 21 : Nat) : Int) = some (.str c) := atI_nat (by rw [List.getElem?_map, hc]; rfl)
  refine ss_cons (s1_asgC (evr_of (ev_tup (ea_cons (ev_ix (ev_var 3 rfl (.inl rfl) rfl) (roll_law (n := 21) L0.roll rfl (.inr (.inl rfl)) rfl (by rfl) (by decide) (by decide)) (.lst .lst hat)) (ea_cons (ev_tup ea_nil (by decide)) (ea_cons (ev_var 3 rfl (.inl rfl) rfl) ea_nil))) (Nat.le_of_ble_eq_true rfl)) ⟨_, _, eg_tup (fun X h => h.toG) (egs_cons (eg_name (fun X h => h.toG) 4 rfl (.inr ⟨rfl, fun X h => h.fn _⟩)) (egs_cons (eg_name (fun X h => h.toG) 5 rfl (.inl rfl)) (egs_cons (eg_name (fun X h => h.toG) 6 rfl (.inr ⟨rfl, fun X h => h.fn _⟩)) egs_nil))) rfl, ?_⟩) (fun env he => by
    obtain ⟨a1, a2, a3, a4, a5, a6, a7, a8, a9⟩ := env
    cases he
    rfl))
  generalize rollN s1 21 = s2
  refine ss_cons (s1_for (ei_range1 (by rfl) L0.D.range ev_int (by decide)) (fun i Γ' W' => (∃ x7 x8, Γ' = GL [some (.ptr q), some (.lst deckD), some (.ptr p), some (.lst (cs.map .str)), some (.str c), some (.tup ((natsOf (ansS cs c i)).map .int)), some (.lst ((threeS cs (ansS cs c i)).map .str)), x7, x8]) ∧ W' = W3 L p s2 W0) ⟨⟨none, none, rfl⟩, rfl⟩ (fun _ _ _ _ => trivial) (fun i dd Γ' W' hdd hI => ?_) (fun Γ' W' hI => ?_))
  · obtain ⟨⟨x7, x8, rfl⟩, rfl⟩ := hI
    obtain ⟨hi, rfl⟩ := rngD_get hdd
    have hi : i < 3 := hi
    have hlt := ansS_lt hcm c2 i
    have hlen := three_len c2 (ansS cs c i) hlt
    have hin := three_has (ansS cs c i) hcm c2 hlt
    have hall : ∀ z ∈ threeS cs (ansS cs c i), PyData.strOk z = true := fun z hz' => hst z (three_mem _ hz')
    have hal := ansS_len cs c i
    have hans : ansS cs c (i + 1) = ansS cs c i ++ [whichN (threeS cs (ansS cs c i)) c] := rfl
    have hsn := three_snoc cs (ansS cs c i) (whichN (threeS cs (ansS cs c i)) c)
    rw [← hans] at hsn
    generalize threeS cs (ansS cs c i) = cur at hlen hin hall hans hsn ⊢
    obtain ⟨w1, w2, r, w3⟩ := which_ok hin hlen
    have hzl : (cur.map Sh.D.str).length ≤ sizeLine := by rw [List.length_map, hlen]; decide
    refine ⟨_, _, eg_name (fun X h => h.toG) 7 rfl (.inl rfl), ?_⟩
    refine ss_cons (s1_set 8 rfl (.inl rfl) (evr_of (ev_ix (EN.ev (EN.to (en_lcF (own := [("k", 36)]) (wF cur c) sc_law.nd (by rfl) (ei_range1 (by rfl) L0.D.range ev_int (by decide)) trivial (fun x hx => ?_) (by decide)) (w_eq cur c))) ev_int (.lst .lst (atI_nat (j := 0) (v := .int (whichN cur c : Nat)) ?_))) ?_))
    · obtain ⟨p, hp, rfl⟩ := List.mem_map.mp hx
      refine turn_if (r := decide (c ∈ StepS.strided cur (Sh.intD (.int (0 + (p : Int)))).toNat 3)) (eg_name (fun X h => h) 36 rfl (.inl (by rfl))) (by decide) (et_cmpR (ev_var 4 rfl (.inr (.inl (by rfl))) rfl) (EV.to (ev_stepQ (i := p) (n := 3) (ev_var 6 rfl (.inr (.inl (by rfl))) rfl) (eo_some (EV.to (ev_var 36 rfl (.inl (by rfl)) rfl) (by rw [Int.zero_add]))) (eo_some ev_int) .lst (by decide) hzl) (congrArg Sh.D.lst (strided_map Sh.D.str cur p 3))) (by
        have e : (Sh.intD (.int (0 + (p : Int)))).toNat = p := by show (0 + (p : Int)).toNat = p; rw [Int.zero_add, Int.toNat_natCast]
        rw [e]
        exact SeqF.inS (d := .lst _) .lst (fun y hy => hall y (strided_mem hy)) (hst c hcm))) fun _ => ev_var 36 rfl (.inl (by rfl)) rfl
    · rw [w3]
      rfl
    refine ss_one (s1_asgC (evr_of (ev_tup (ea_cons (ev_bin (ev_var 5 rfl (.inl rfl) rfl) (ev_tup (ea_cons (ev_var 8 rfl (.inl rfl) rfl) ea_nil) (Nat.le_of_ble_eq_true rfl)) (.addT _ _ ?_)) (ea_cons (ev_pure L0.lheaps (Nat.le_refl _) (by rfl) (ea_cons (ev_var 6 rfl (.inr (.inl rfl)) rfl) (ea_cons (ev_var 8 rfl (.inl rfl) rfl) ea_nil)) (.mk (cur.map .str) (whichN cur c) (by rw [List.length_map]; exact hlen) w1)) ea_nil)) (Nat.le_of_ble_eq_true rfl)) ⟨_, _, eg_tup (fun X h => h.toG) (egs_cons (eg_name (fun X h => h.toG) 5 rfl (.inl rfl)) (egs_cons (eg_name (fun X h => h.toG) 6 rfl (.inr ⟨rfl, fun X h => h.fn _⟩)) egs_nil)) rfl, ⟨⟨some (.int (0 + (i : Int))), some (.int (whichN cur c : Nat)), ?_⟩, rfl⟩⟩) (fun env he => by
      obtain ⟨a1, a2, a3, a4, a5, a6, a7, a8, a9⟩ := env
      cases he
      rfl))
    · rw [List.length_map, show (natsOf (ansS cs c i)).length = i by unfold natsOf; rw [List.length_map, hal]]
      exact Nat.le_trans (show _ ≤ 10 by simp; omega) (by decide)
    · rw [hsn, hans, heap_map]
      unfold natsOf
      rw [List.map_append, List.map_append]
      rfl
  · obtain ⟨⟨x7, x8, rfl⟩, rfl⟩ := hI
    rw [rngD_len, show (3 : Int).toNat = 3 from rfl]
    have hlt := ansS_lt hcm c2 3
    have hal := ansS_len cs c 3
    have hlen := three_len c2 (ansS cs c 3) hlt
    have hall : ∀ z ∈ threeS cs (ansS cs c 3), PyData.strOk z = true := fun z hz' => hst z (three_mem _ hz')
    have hmid := three_mid hnd c2 hcm
    have hth := SThree.ok (TE := TE) (.lst (cs.map .str)) (.tup ((natsOf (ansS cs c 3)).map .int)) (cs.map .str) (ansS cs c 3) .lst .tup (by rw [List.length_map]; exact c2) hlt (by omega)
    rw [three_map] at hth
    have hcok := hst c hcm
    refine ss_cons (s1_ifF (et_w (ew_orF (et_cmpR (ev_pure L0.ans (Nat.le_refl _) (by rfl) (ea_cons (ev_var 3 rfl (.inl rfl) rfl) (ea_cons (ev_var 4 rfl (.inr (.inl rfl)) rfl) (ea_cons ev_int ea_nil))) (.ok _ cs c 3 .lst hst hcok c2 hcm (by decide))) (ev_var 5 rfl (.inl rfl) rfl) (ints_ne _)) (ew_orF (et_cmpR (EN.ev (en_list (by rfl) L0.D.list (ev_pure L0.three (Nat.le_refl _) (by rfl) (ea_cons (ev_var 3 rfl (.inl rfl) rfl) (ea_cons (ev_var 5 rfl (.inl rfl) rfl) ea_nil)) hth) (.tup _))) (ev_var 6 rfl (.inr (.inl rfl)) rfl) (strs_ne _ hall)) (ew_or1 (ET.to (et_cmpR (ev_ix (ev_var 6 rfl (.inr (.inl rfl)) rfl) ev_int (.lst .lst (atI_nat (j := 10) (v := .str c) (by rw [List.getElem?_map, hmid]; rfl)))) (ev_var 4 rfl (.inr (.inl rfl)) rfl) (.neS _ _)) (by simp)))))) (ss_nil ?_))
    exact h s2 cs c _ _ x7 x8 c1 c2
end
end S3
set_option Elab.async false
set_option linter.all false
set_option maxRecDepth 100000
set_option maxHeartbeats 4000000
set_option autoImplicit false
namespace S3
open PySem PySem.Spec PySem.W PyProof.Rows L2 Sh
def natD (n : Nat) : Sh.D := .int (n : Nat)
def drawN (n : Nat) (s : Dice) : Dice × Nat := (rollN s n, nat12 s n)
theorem natsD_eq (ns : List Nat) : ns.map natD = (natsOf ns).map .int := (natsOf_map ns).symm
section
variable {P : Program} {w : World} {K : PySem.W.Frag} {mg : Str → Option Value} {base : Heap} {T : Tb} {TE SE CD CS : Addr}
theorem law_b {k : Nat} {cd : Value} {E : XK} {cl : List (Str × Addr)} {A : AE} (L0 : LawK P w K mg base T k TE SE CD CS) {p L : Addr} {s : Dice} {W0 : OW} {x0 x1 x4 x5 x6 x7 x8 : Option Sh.D} {cs : List Str} (c1 : rowOk cs = true) (c2 : cs.length = 21)
    (h : ∀ (s' : Dice) (x9 x10 x11 : Option Sh.D), SS (FL P w K mg base T k cd E cl) (lawBody.drop 8) (GL [x0, x1, some (.ptr p), some (.lst (cs.map .str)), x4, x5, x6, x7, x8, x9, x10, x11]) (W3 L p s' W0) A) :
    SS (FL P w K mg base T k cd E cl) (lawBody.drop 4) (GL [x0, x1, some (.ptr p), some (.lst (cs.map .str)), x4, x5, x6, x7, x8]) (W3 L p s W0) A := by
  have hok := rowOk_all c1
  have hst : ∀ z ∈ cs, PyData.strOk z = true := fun z hz => okc_strOk (hok z hz)
  have r5 := (nat12_eq s (n := 5) (by decide)).1
  refine ss_cons (s1_setLcW (own := [("k", 36)]) 9 (drawN 3) natD (fun s => W3 L p s W0) (rollN s 5) sc_law.nd rfl rfl rfl rfl (by rfl) (by rfl) (ei_range1 (by rfl) L0.D.range (roll_law (n := 5) L0.roll rfl (.inr (.inl rfl)) rfl (by rfl) (by decide) (by decide)) (by constructor <;> omega)) rfl (fun _ => trivial) (fun s' d hd => ?_) ?_ ?_)
  · obtain ⟨i, hi, rfl⟩ := List.mem_map.mp hd
    exact ⟨_, _, eg_name (fun X h => h) 36 rfl (.inl (by rfl)), by decide, roll_law (n := 3) L0.roll rfl (.inr (.inl (by rfl))) rfl (by rfl) (by decide) (by decide)⟩
  · rw [rngD_len]
    exact Nat.lt_of_le_of_lt (show _ ≤ 6 by omega) (by decide)
  rw [rngD_len, Int.toNat_natCast, natsD_eq]
  have hln := runG_len (drawN 3) (rollN s 5) (nat12 s 5)
  have hal := runG_all (drawN 3) (rollN s 5) (Pr := fun n => n < 3) (fun s => (nat12_eq s (n := 3) (by decide)).1) (nat12 s 5)
  generalize (runG (drawN 3) (rollN s 5) (nat12 s 5)).1 = s4
  generalize (runG (drawN 3) (rollN s 5) (nat12 s 5)).2 = ns at hln hal ⊢
  refine ss_cons (s1_set 10 rfl (.inl rfl) (evr_of (ev_var 3 rfl (.inl rfl) rfl) ?_))
  refine ss_cons (s1_for (ei_list (ev_var 9 rfl (.inl rfl) rfl) .lst) (fun i Γ' W' => (∃ x11, Γ' = GL [x0, x1, some (.ptr p), some (.lst (cs.map .str)), x4, x5, x6, x7, x8, some (.lst ((natsOf ns).map .int)), some (.lst ((threeS cs (ns.take i)).map .str)), x11]) ∧ W' = W3 L p s4 W0) ⟨⟨none, rfl⟩, rfl⟩ (fun _ _ _ _ => .lst) (fun i d Γ' W' hd hI => ?_) (fun Γ' W' hI => ?_))
  · obtain ⟨⟨x11, rfl⟩, rfl⟩ := hI
    obtain ⟨n, hn, rfl⟩ : ∃ n, ns[i]? = some n ∧ d = natD n := by
      rw [← natsD_eq, List.getElem?_map] at hd
      cases e : ns[i]? with
      | none => rw [e] at hd; cases hd
      | some n => rw [e] at hd; cases hd; exact ⟨n, rfl, rfl⟩
    have hlt := hal n (List.mem_of_getElem? hn)
    have hlen := three_len c2 (ns.take i) fun a ha => hal a (List.mem_of_mem_take ha)
    refine ⟨_, _, eg_name (fun X h => h.toG) 11 rfl (.inl rfl), ss_one (s1_set 10 rfl (.inl rfl) (evr_of (ev_pure L0.lheaps (Nat.le_refl _) (by rfl) (ea_cons (ev_var 10 rfl (.inl rfl) rfl) (ea_cons (ev_var 11 rfl (.inl rfl) rfl) ea_nil)) (.mk ((threeS cs (ns.take i)).map .str) n (by rw [List.length_map]; exact hlen) hlt)) ⟨⟨some (natD n), ?_⟩, rfl⟩))⟩
    rw [take_snoc hn, three_snoc, heap_map]
    rfl
  · obtain ⟨⟨x11, rfl⟩, rfl⟩ := hI
    have hl2 : ((natsOf ns).map Sh.D.int).length = ns.length := by rw [List.length_map]; unfold natsOf; rw [List.length_map]
    rw [hl2, List.take_length]
    have hth := SThree.ok (TE := TE) (.lst (cs.map .str)) (.lst ((natsOf ns).map .int)) (cs.map .str) ns .lst .lst (by rw [List.length_map]; exact c2) hal (by omega)
    rw [three_map] at hth
    have hall : ∀ z ∈ threeS cs ns, PyData.strOk z = true := fun z hz' => hst z (three_mem _ hz')
    exact ss_cons (s1_ifF (et_cmpR (EN.ev (en_list (by rfl) L0.D.list (ev_pure L0.three (Nat.le_refl _) (by rfl) (ea_cons (ev_var 3 rfl (.inl rfl) rfl) (ea_cons (ev_var 9 rfl (.inl rfl) rfl) ea_nil)) hth) (.tup _))) (ev_var 10 rfl (.inl rfl) rfl) (strs_ne _ hall)) (ss_nil (h s4 _ _ _)))
end
end S3
set_option Elab.async false
set_option linter.all false
set_option maxRecDepth 100000
set_option maxHeartbeats 4000000
set_option autoImplicit false
namespace S3
open PySem PySem.Spec PySem.W PyProof.Rows L2 Sh
def sgT (c : Nat) : Str := ⟨#[c]⟩
def cOf (z : Str) : Nat := z.cps.toList.headD 0
theorem perm_sg {ys : List Str} {ws0 : List Nat} (h : ys.Perm (ws0.map sgT)) : ∃ ws : List Nat, ys = ws.map sgT ∧ ws.Perm ws0 := by
  refine ⟨ys.map cOf, ?_, ?_⟩
  · rw [List.map_map]
    conv => lhs; rw [← List.map_id ys]
    refine List.map_congr_left fun y hy => ?_
    obtain ⟨c, _, rfl⟩ := List.mem_map.mp (h.mem_iff.mp hy)
    rfl
  · have := h.map cOf
    rw [List.map_map] at this
    rwa [show (cOf ∘ sgT) = id from rfl, List.map_id] at this
theorem join_signs : ∀ ws : List Nat, Str.join "" (ws.map sgT) = ⟨ws.toArray⟩
  | [] => rfl
  | [a] => rfl
  | a :: b :: r => by
    have ih := join_signs (b :: r)
    refine cps_inj ?_
    show (((⟨#[a]⟩ : Str) ++ "" ++ Str.join "" ((b :: r).map sgT) : Str)).cps.toList = a :: b :: r
    rw [ih]
    show ((#[a] ++ #[]) ++ (b :: r).toArray).toList = _
    simp
theorem foldl_cat : ∀ (l : List (Array Nat)) (acc : Array Nat), (l.foldl (· ++ ·) acc).toList = acc.toList ++ (l.map fun a => a.toList).flatten
  | [], acc => by simp
  | a :: l, acc => by
    rw [List.foldl_cons, foldl_cat l, Array.toList_append, List.map_cons, List.flatten_cons, List.append_assoc]
theorem rep_one (c n : Nat) : (repS ⟨#[c]⟩ n).cps.toList = List.replicate n c := by
  unfold repS
  rw [foldl_cat, List.map_replicate]
  simp
theorem repS_len (c n : Nat) : (repS ⟨#[c]⟩ n).length = n := by rw [len_cps, rep_one, List.length_replicate]
theorem ch_l : ("l" : Str) = ⟨#[108]⟩ := by decide +kernel
theorem ch_r : ("r" : Str) = ⟨#[114]⟩ := by decide +kernel
/-- so many l's, so many r's -/
def wd0 (m n : Nat) : List Nat := List.replicate m 108 ++ List.replicate (n - m) 114
theorem wd_word {ws : List Nat} {m n : Nat} (h : ws.Perm (wd0 m n)) (hm : m ≤ n) : wordOk ws ∧ ws.count 108 = m ∧ ws.length = n := by
  refine ⟨fun c hc => ?_, ?_, ?_⟩
  · have := h.mem_iff.mp hc
    unfold wd0 at this
    rcases List.mem_append.mp this with q | q
    · exact .inl (List.eq_of_mem_replicate q)
    · exact .inr (List.eq_of_mem_replicate q)
  · rw [h.count_eq]
    unfold wd0
    rw [List.count_append, List.count_replicate_self, List.count_replicate]
    rfl
  · rw [h.length_eq]
    unfold wd0
    rw [List.length_append, List.length_replicate, List.length_replicate]
    omega
section
variable {P : Program} {w : World} {K : PySem.W.Frag} {mg : Str → Option Value} {base : Heap} {T : Tb} {TE SE CD CS : Addr}
/-- a roll by any number -/
theorem roll_lawV {F : CF} {Γ : Ga} {W0 : OW} {L p : Addr} {s : Dice} {p1 p2 pos : Pos} {e : Expr} {n : Nat} (hroll : F.Fd "_law_roll" F.k 2 SRoll) (hN : F.N[2]? = some ("dice" : Str)) (hv : VisS F.sc "dice") (hΓ : Γ[2]? = some (some (.ptr p))) (hg : GlS F "_law_roll") (he : EV F e Γ (W3 L p s W0) (.ok (.int (n : Nat))) (W3 L p s W0)) (h0 : 0 < n) (h1 : n ≤ 100000000)
    (hs1 : ∀ env, starEach [e] env = (false, eval e env) :: starEach [] env := by intro _; rfl) (hs2 : ∀ env, starEach [.Name "dice" p2, e] env = (false, eval (.Name "dice" p2) env) :: starEach [e] env := by intro _; rfl) (hpl : ∀ env, (backTo pos (starEach [e] env)).any (·.1) = false := by intro _; rfl) :
    EV F (.Call (.Name "_law_roll" p1) [.Name "dice" p2, e] [] pos) Γ (W3 L p s W0) (.ok (.int (nat12 s n : Nat))) (W3 L p (rollN s n) W0) :=
  EV.to (ev_at (i := 1) (m := diceA s) hroll (Nat.le_refl _) hg (ea_cons (ev_var 2 hN hv hΓ) (ea_cons he ea_nil hs1) hs2) rfl (.mk p s n (by omega) (by omega)) (he := hs2) (hpl := hpl)) (congrArg Sh.D.int (nat12_eq s h0).2)
theorem law_c {k : Nat} {cd : Value} {E : XK} {cl : List (Str × Addr)} {A : AE} (L0 : LawK P w K mg base T k TE SE CD CS) {p L : Addr} {s : Dice} {W0 : OW} {x0 x3 x4 x5 x6 x7 x8 x9 x10 x11 : Option Sh.D}
    (h : ∀ (s' : Dice) (kn pc m : Nat) (st : List Str) (ws : List Nat), 2 ≤ kn → kn ≤ 4 → 1 ≤ pc → pc ≤ 6 → rowOk st = true → st.length = kn * pc → m ≤ kn * pc → wordOk ws → ws.count 108 = m → ws.length = kn * pc → SS (FL P w K mg base T k cd E cl) (lawBody.drop 13) (GL [x0, some (.lst deckD), some (.ptr p), x3, x4, x5, x6, x7, x8, x9, x10, x11, some (.int (kn : Nat)), some (.int (pc : Nat)), some (.int ((kn * pc : Nat) : Int)), some (.lst (st.map .str)), some (.int (m : Nat)), some (.str ⟨ws.toArray⟩)]) (W3 L p s' W0) A) :
    SS (FL P w K mg base T k cd E cl) (lawBody.drop 8) (GL [x0, some (.lst deckD), some (.ptr p), x3, x4, x5, x6, x7, x8, x9, x10, x11]) (W3 L p s W0) A := by
  have r3 := (nat12_eq s (n := 3) (by decide)).1
  have r6 := (nat12_eq (rollN s 3) (n := 6) (by decide)).1
  refine ss_cons (s1_asgC (evr_of (ev_tup (ea_cons (ev_bin ev_int (roll_law (n := 3) L0.roll rfl (.inr (.inl rfl)) rfl (by rfl) (by decide) (by decide)) (.addI _ _)) (ea_cons (ev_bin ev_int (roll_law (n := 6) L0.roll rfl (.inr (.inl rfl)) rfl (by rfl) (by decide) (by decide)) (.addI _ _)) ea_nil)) (Nat.le_of_ble_eq_true rfl)) ⟨_, _, eg_tup (fun X h => h.toG) (egs_cons (eg_name (fun X h => h.toG) 12 rfl (.inr ⟨rfl, fun X h => h.fn _⟩)) (egs_cons (eg_name (fun X h => h.toG) 13 rfl (.inl rfl)) egs_nil)) rfl, ?_⟩) (fun env he => by
    obtain ⟨a1, a2, a3, a4, a5, a6, a7, a8, a9⟩ := env
    cases he
    rfl))
  generalize nat12 (rollN s 3) 6 = pc0 at r6 ⊢
  generalize nat12 s 3 = kn0 at r3 ⊢
  generalize rollN (rollN s 3) 6 = s1
  obtain ⟨kn, hkn, h1, h2⟩ : ∃ kn : Nat, (2 : Int) + (kn0 : Int) = (kn : Nat) ∧ 2 ≤ kn ∧ kn ≤ 4 := ⟨2 + kn0, by omega, by omega, by omega⟩
  obtain ⟨pc, hpc, h3, h4⟩ : ∃ pc : Nat, (1 : Int) + (pc0 : Int) = (pc : Nat) ∧ 1 ≤ pc ∧ pc ≤ 6 := ⟨1 + pc0, by omega, by omega, by omega⟩
  have hle : kn * pc ≤ 24 := Nat.mul_le_mul h2 h4
  have hge : 1 ≤ kn * pc := Nat.mul_le_mul (show 1 ≤ kn by omega) h3
  rw [hkn, hpc]
  refine ss_cons (s1_set 14 rfl (.inl rfl) (evr_of (EV.to (d1 := .int ((kn * pc : Nat) : Int)) (ev_bin (ev_var 12 rfl (.inr (.inl rfl)) rfl) (ev_var 13 rfl (.inl rfl) rfl) (.mulI _ _ (.inl ⟨by omega, by omega⟩))) (by push_cast; rfl)) ?_))
  generalize hwh : kn * pc = n at hle hge ⊢
  have hm1 : mixM (n : Nat) deckS.length = n := by unfold mixM; rw [deck_len]; omega
  obtain ⟨c1, c2⟩ := mixS_ok s1 deck_ok (i := n) (by rw [deck_len]; omega)
  refine ss_cons (s1_asgC (evr_of (ev_tup (ea_cons (mix_ev (xs := deckS) (m := (n : Nat)) L0.mixed rfl (.inr (.inl rfl)) rfl (by rfl) (by rw [deck_len]; decide) (by omega) (by omega) (ea_cons (ev_var 1 rfl (.inl rfl) rfl) (ea_cons (ev_var 14 rfl (.inl rfl) rfl) ea_nil))) (ea_cons (roll_lawV (n := n + 1) L0.roll rfl (.inr (.inl rfl)) rfl (by rfl) (EV.to (d1 := .int ((n + 1 : Nat) : Int)) (ev_bin (ev_var 14 rfl (.inl rfl) rfl) ev_int (.addI _ _)) (by push_cast; rfl)) (by omega) (by omega)) ea_nil)) (Nat.le_of_ble_eq_true rfl)) ⟨_, _, eg_tup (fun X h => h.toG) (egs_cons (eg_name (fun X h => h.toG) 15 rfl (.inr ⟨rfl, fun X h => h.fn _⟩)) (egs_cons (eg_name (fun X h => h.toG) 16 rfl (.inl rfl)) egs_nil)) rfl, ?_⟩) (fun env he => by
    obtain ⟨a1, a2, a3, a4, a5, a6, a7, a8, a9⟩ := env
    cases he
    rfl))
  rw [hm1]
  generalize (mixS s1 deckS n).2.2 = st at c1 c2 ⊢
  generalize (mixS s1 deckS n).1 = s2
  have rm := (nat12_eq s2 (n := n + 1) (by omega)).1
  generalize nat12 s2 (n + 1) = m at rm ⊢
  have hmn : m ≤ n := by omega
  generalize rollN s2 ((n + 1 : Nat) : Int) = s3
  have e1 : ("l" : Str).length = 1 := rfl
  have e2 : ("r" : Str).length = 1 := rfl
  have l1 : (repS "l" m).length = m := by rw [ch_l]; exact repS_len _ _
  have l2 : (repS "r" (n - m)).length = n - m := by rw [ch_r]; exact repS_len _ _
  have hcps : (repS "l" m ++ repS "r" (n - m)).cps.toList = wd0 m n := by
    show ((repS "l" m).cps ++ (repS "r" (n - m)).cps).toList = _
    rw [Array.toList_append, ch_l, ch_r, rep_one, rep_one]
    rfl
  have hsz : (repS "l" m ++ repS "r" (n - m)).cps.size ≤ sizeLine := by
    rw [← Array.length_toList, hcps]
    unfold wd0
    rw [List.length_append, List.length_replicate, List.length_replicate]
    exact Nat.le_trans (show _ ≤ 24 by omega) (by decide)
  refine ss_cons (s1_set 17 rfl (.inl rfl) (evr_of (EN.ev (EN.to (en_listT (by rfl) L0.D.list (ev_bin (ev_repA (n := m) ev_str (ev_var 16 rfl (.inl rfl) rfl) (by omega) (by decide) (by rw [e1]; omega) (by rw [l1]; omega)) (ev_repA (n := n - m) ev_str (EV.to (ev_bin (ev_var 14 rfl (.inl rfl) rfl) (ev_var 16 rfl (.inl rfl) rfl) (.subI _ _)) (by congr 1; omega)) (by omega) (by decide) (by rw [e2]; omega) (by rw [l2]; omega)) (.addS _ _ (by rw [l1, l2]; exact Nat.le_trans (show _ ≤ 24 by omega) (by decide)))) hsz) (show _ = ((wd0 m n).map sgT).map Sh.D.str by rw [hcps, List.map_map]; rfl))) ?_))
  have hwl : ((wd0 m n).map sgT).length = n := by
    unfold wd0
    rw [List.length_map, List.length_append, List.length_replicate, List.length_replicate]
    omega
  have hm2 : mixM (n : Nat) ((wd0 m n).map sgT).length = n := by unfold mixM; rw [hwl]; omega
  obtain ⟨d1, d2, d3⟩ := mixAt_ok (⟨#[]⟩ : Str) s3 ((wd0 m n).map sgT) n (by omega)
  have d1 : ((mixS s3 ((wd0 m n).map sgT) n).2.2 ++ (mixS s3 ((wd0 m n).map sgT) n).2.1).Perm ((wd0 m n).map sgT) := d1
  have d3 : (mixS s3 ((wd0 m n).map sgT) n).2.1.length = _ := d3
  rw [hwl, Nat.sub_self] at d3
  rw [List.eq_nil_of_length_eq_zero d3, List.append_nil] at d1
  obtain ⟨ws, hws, hpw⟩ := perm_sg d1
  obtain ⟨q1, q2, q3⟩ := wd_word hpw hmn
  refine ss_cons (s1_set 17 rfl (.inl rfl) (evr_of (EV.to (ev_join (ys := ws.map sgT) ev_str (EV.to (mix_ev (xs := (wd0 m n).map sgT) (m := (n : Nat)) L0.mixed rfl (.inr (.inl rfl)) rfl (by rfl) (by rw [hwl]; omega) (by omega) (by omega) (ea_cons (ev_var 17 rfl (.inl rfl) rfl) (ea_cons (ev_var 14 rfl (.inl rfl) rfl) ea_nil))) (by rw [hm2, hws])) (.lst .lst) ?_) (show _ = Sh.D.str ⟨ws.toArray⟩ by rw [show Txt.join "" (ws.map sgT) = Str.join "" (ws.map sgT) from StrLaws.glued_eq_join _ _, join_signs])) ?_))
  · rw [List.map_map]
    have hone : ∀ l : List Nat, (l.map (Str.length ∘ sgT)).sum = l.length := fun l => by
      induction l with
      | nil => rfl
      | cons a l ih =>
        rw [List.map_cons, List.sum_cons, ih, List.length_cons]
        show 1 + l.length = _
        omega
    rw [hone, List.length_map, show ("" : Str).length = 0 from rfl]
    omega
  rw [hm2]
  generalize (mixS s3 ((wd0 m n).map sgT) n).1 = s4
  have := h s4 kn pc m st ws h1 h2 h3 h4 c1 (by rw [hwh]; exact c2) (by rw [hwh]; exact hmn) q1 q2 (by rw [hwh]; exact q3)
  rw [hwh] at this
  exact this
end
end S3
set_option Elab.async false
set_option linter.all false
set_option maxRecDepth 100000
set_option maxHeartbeats 1000000
set_option autoImplicit false
namespace S3
open PySem PySem.Spec PySem.W PyProof.Rows L2 Sh
/-! pieces behind a riffle of a packet dealt off: one of each kind -/
def gilN (m n : Nat) : List Nat := ((List.range n).take m).reverse ++ (List.range n).drop m
def gilW (m n : Nat) (ws : List Nat) : List Nat := riffP 0 (gilN m n) ws
theorem gil_at {m n i : Nat} (hm : m ≤ n) (hi : i < n) : (gilN m n).getD i 0 = if i < m then m - 1 - i else i := by
  unfold gilN
  rw [List.getD_eq_getElem?_getD]
  by_cases h : i < m
  · rw [if_pos h, List.getElem?_append_left (by simp; omega), List.getElem?_reverse (by simp; omega), List.getElem?_take_of_lt (by simp; omega), List.length_take, List.length_range, List.getElem?_range (by omega)]
    simp
    omega
  · rw [if_neg h, List.getElem?_append_right (by simp; omega), List.getElem?_drop, List.length_reverse, List.length_take, List.length_range, List.getElem?_range (by omega)]
    simp
    omega
theorem gil_get {ws : List Nat} {m n t c : Nat} (hw : wordOk ws) (h1 : ws.count 108 = m) (h2 : ws.length = n) (hc : ws[t]? = some c) : (gilW m n ws)[t]? = some (if c = 108 then m - 1 - (ws.take t).count 108 else m + (ws.take t).count 114) := by
  have hlt := (List.getElem?_eq_some_iff.mp hc).1
  have hwc := word_count hw
  have hr := rifI_lt hw hc
  have hg : ws.getD t 0 = c := by rw [List.getD_eq_getElem?_getD, hc]; rfl
  unfold gilW riffP
  rw [List.getElem?_map, List.getElem?_range hlt, Option.map_some, gil_at (by omega) (by omega)]
  unfold rifI
  rw [hg]
  rcases hw c (List.mem_of_getElem? hc) with rfl | rfl
  · have := count_le_of (b := 108) hc
    simp at this
    rw [if_pos rfl, if_pos rfl, if_pos (by omega)]
  · have e : ¬ ((114 : Nat) = 108) := by decide
    rw [if_neg e, if_neg e, if_neg (by omega), h1]
theorem gil_len (m n : Nat) (ws : List Nat) : (gilW m n ws).length = ws.length := by
  unfold gilW riffP
  rw [List.length_map, List.length_range]
theorem gil_take {ws : List Nat} {m n : Nat} (hw : wordOk ws) (h1 : ws.count 108 = m) (h2 : ws.length = n) : ∀ t, t ≤ n → ((gilW m n ws).take t).Perm ((List.range t).map fun j => (m - (ws.take t).count 108) + j) ∧ (ws.take t).count 108 ≤ m
  | 0, _ => ⟨.refl _, Nat.zero_le _⟩
  | t + 1, h => by
    obtain ⟨ih1, ih2⟩ := gil_take hw h1 h2 t (by omega)
    obtain ⟨c, hc⟩ : ∃ c, ws[t]? = some c := ⟨_, List.getElem?_eq_getElem (by omega)⟩
    have hg := gil_get hw h1 h2 hc
    have hcl := count_le_of (b := 108) hc
    have hw1 : wordOk (ws.take t) := fun x hx => hw x (List.mem_of_mem_take hx)
    have hwc := word_count hw1
    rw [List.length_take, Nat.min_eq_left (by omega)] at hwc
    rw [take_snoc hg, take_snoc hc, List.count_append]
    rcases hw c (List.mem_of_getElem? hc) with rfl | rfl
    · simp at hcl
      rw [if_pos rfl, List.count_singleton_self]
      refine ⟨?_, by omega⟩
      have e : (List.range (t + 1)).map (fun j => m - ((ws.take t).count 108 + 1) + j) = (m - 1 - (ws.take t).count 108) :: (List.range t).map fun j => (m - (ws.take t).count 108) + j := by
        rw [List.range_succ_eq_map, List.map_cons, List.map_map]
        congr 1
        · omega
        · refine List.map_congr_left fun j _ => ?_
          simp only [Function.comp, Nat.succ_eq_add_one]
          omega
      rw [e]
      exact (List.perm_append_comm (l₂ := [m - 1 - (ws.take t).count 108])).trans (ih1.cons _)
    · rw [if_neg (by decide), show ([114] : List Nat).count 108 = 0 from rfl, Nat.add_zero]
      refine ⟨?_, ih2⟩
      rw [List.range_succ, List.map_append, List.map_cons, List.map_nil, show m + (ws.take t).count 114 = m - (ws.take t).count 108 + t by omega]
      exact ih1.append_right _
/-- residues of a row of neighbours -/
theorem res_block : ∀ K, 2 ≤ K → K ≤ 4 → ∀ s, s < K → ∀ r, r < K → ((List.range K).map fun j => (s + j) % K).count r = 1 := by
  intro K h1 h2
  match K, h1, h2 with
  | 2, _, _ => decide
  | 3, _, _ => decide
  | 4, _, _ => decide
theorem res_count {K : Nat} (h1 : 2 ≤ K) (h2 : K ≤ 4) (s : Nat) {r : Nat} (hr : r < K) : ∀ q, ((List.range (q * K)).map fun j => (s + j) % K).count r = q
  | 0 => by rw [Nat.zero_mul]; rfl
  | q + 1 => by
    rw [Nat.succ_mul, List.range_add, List.map_append, List.count_append, res_count h1 h2 s hr q, List.map_map]
    have e : ((fun j => (s + j) % K) ∘ fun x => q * K + x) = fun j => (s % K + j) % K := by
      funext j
      simp only [Function.comp]
      rw [show s + (q * K + j) = (s + j) + q * K by omega, Nat.add_mul_mod_self_right, Nat.add_mod s j K, Nat.add_mod (s % K) j K, Nat.mod_mod]
    rw [e, res_block K h1 h2 _ (Nat.mod_lt _ (by omega)) r hr]
/-- each piece has each kind once -/
theorem piece_perm {ws : List Nat} {m n K q i : Nat} (hw : wordOk ws) (h1 : ws.count 108 = m) (h2 : ws.length = n) (k1 : 2 ≤ K) (k2 : K ≤ 4) (hn : n = K * q) (hi : i < q) : ((((gilW m n ws).drop (i * K)).take K).map (· % K)).Perm (List.range K) := by
  have hle : (i + 1) * K ≤ n := by
    rw [hn, Nat.mul_comm]
    exact Nat.mul_le_mul_left K hi
  have hcnt : ∀ t, t * K ≤ n → ∀ r, r < K → (((gilW m n ws).take (t * K)).map (· % K)).count r = t := fun t ht r hr => by
    obtain ⟨p, _⟩ := gil_take hw h1 h2 (t * K) ht
    rw [(p.map (· % K)).count_eq, List.map_map]
    exact res_count k1 k2 _ hr t
  have e : (gilW m n ws).take ((i + 1) * K) = (gilW m n ws).take (i * K) ++ ((gilW m n ws).drop (i * K)).take K := by
    rw [Nat.succ_mul, List.take_add]
  have hlen : (((gilW m n ws).drop (i * K)).take K).length = K := by
    rw [List.length_take, List.length_drop, gil_len, h2]
    rw [Nat.succ_mul] at hle
    omega
  refine List.perm_iff_count.mpr fun r => ?_
  by_cases hr : r < K
  · have a1 := hcnt (i + 1) hle r hr
    have a2 := hcnt i (by rw [Nat.succ_mul] at hle; omega) r hr
    rw [e, List.map_append, List.count_append, a2] at a1
    have : (List.range K).count r = 1 := by
      have := List.nodup_iff_count.mp (List.nodup_range (n := K)) r
      have := List.count_pos_iff.mpr (List.mem_range.mpr hr)
      omega
    rw [this]
    omega
  · rw [List.count_eq_zero.mpr fun hm => hr (List.mem_range.mp hm), List.count_eq_zero.mpr fun hm => ?_]
    obtain ⟨x, _, rfl⟩ := List.mem_map.mp hm
    exact hr (Nat.mod_lt _ (by omega))
/-! the kinds' names -/
def kT (i : Nat) : Str := "k" ++ Str.ofString (toString ((i : Nat) : Int))
def kNames (K : Nat) : List Str := (List.range K).map kT
theorem kT_facts : ∀ i, i < 4 → PyData.strOk (kT i) = true ∧ (kT i).length = 2 := by decide +kernel
theorem kNames_facts : ∀ K, K < 5 → sortedS (kNames K) = true ∧ (kNames K).Nodup := by decide +kernel
def rowK (K m n : Nat) (ws : List Nat) : List Str := (gilW m n ws).map fun i => kT (i % K)
section
variable {ws : List Nat} {m n K q : Nat} (hw : wordOk ws) (h1 : ws.count 108 = m) (h2 : ws.length = n) (k1 : 2 ≤ K) (k2 : K ≤ 4) (hn : n = K * q)
include hw h1 h2 k1 k2 hn
theorem piece_row {i : Nat} (hi : i < q) : (pieceS (rowK K m n ws) K i).Perm (kNames K) := by
  have := (piece_perm hw h1 h2 k1 k2 hn hi).map kT
  unfold pieceS rowK kNames
  rw [List.map_map] at this
  rw [← List.map_drop, ← List.map_take]
  exact this
theorem once_row (hq : 0 < q) : (kNames K).Perm (onceK (rowK K m n ws)) := by
  refine (List.perm_ext_iff_of_nodup (kNames_facts K (by omega)).2 (keysOf_nodup _ _ List.nodup_nil)).mpr fun a => ?_
  rw [keysOf_mem]
  constructor
  · intro ha
    have := (piece_row hw h1 h2 k1 k2 hn hq).mem_iff.mpr ha
    exact .inr (List.mem_of_mem_drop (List.mem_of_mem_take this))
  · rintro (ha | ha)
    · cases ha
    · obtain ⟨i, _, rfl⟩ := List.mem_map.mp ha
      exact List.mem_map.mpr ⟨i % K, List.mem_range.mpr (Nat.mod_lt _ (by omega)), rfl⟩
theorem names_row (hq : 0 < q) : namesOf (rowK K m n ws) = kNames K := (srtS_one (once_row hw h1 h2 k1 k2 hn hq) (kNames_facts K (by omega)).1).symm
theorem kNames_len : (kNames K).length = K := by
  unfold kNames
  rw [List.length_map, List.length_range]
theorem row_len : (rowK K m n ws).length = n := by
  unfold rowK
  rw [List.length_map, gil_len, h2]
theorem row_strOk : ∀ z ∈ rowK K m n ws, PyData.strOk z = true ∧ z.length = 2 := fun z hz => by
  obtain ⟨i, _, rfl⟩ := List.mem_map.mp hz
  exact kT_facts _ (Nat.lt_of_lt_of_le (Nat.mod_lt _ (by omega)) k2)
theorem cnt_pieces : cntC n K = q := by
  unfold cntC
  rw [hn, show K * q + K - 1 = (K - 1) + K * q by omega, Nat.add_mul_div_left _ _ (by omega), Nat.div_eq_of_lt (by omega), Nat.zero_add]
theorem fits_row (hq : 0 < q) : fitsB (rowK K m n ws) = true := by
  unfold fitsB
  rw [names_row hw h1 h2 k1 k2 hn hq, kNames_len hw h1 h2 k1 k2 hn, row_len hw h1 h2 k1 k2 hn, cnt_pieces hw h1 h2 k1 k2 hn, List.all_eq_true]
  intro i hi
  exact decide_eq_true (srtS_one (piece_row hw h1 h2 k1 k2 hn (List.mem_range.mp hi)).symm (kNames_facts K (by omega)).1).symm
theorem pair_row (hq : 0 < q) : pairOk n (rowK K m n ws) := by
  refine ⟨row_len hw h1 h2 k1 k2 hn, ?_, ?_⟩
  · rw [names_row hw h1 h2 k1 k2 hn hq]
    intro e
    have := kNames_len hw h1 h2 k1 k2 hn
    rw [e] at this
    simp at this
    omega
  · rw [names_row hw h1 h2 k1 k2 hn hq, kNames_len hw h1 h2 k1 k2 hn, hn]
    exact Nat.mul_mod_right _ _
end
/-- kinds counted by a dict -/
theorem dict_count (zs : List Str) : (mergeD (zs.map fun z => ((Sum.inr z : Key), Sh.D.int 1))).length = (keysOf [] zs).length := by
  unfold mergeD
  rw [fold_len (fun kd : Key × Sh.D => kd.1) (fun kd => kd.2), List.map_map, show ((fun kd : Key × Sh.D => kd.1) ∘ fun z : Str => ((Sum.inr z : Key), Sh.D.int 1)) = Sum.inr from rfl]
  have := keysOf_inr zs []
  rw [List.map_nil] at this
  rw [this, List.length_map]
theorem count_nodup {zs : List Str} (h : zs.Nodup) : (keysOf [] zs).length = zs.length := by
  rw [keysOf_all zs [] (fun _ _ z => by cases z) h, List.nil_append]
end S3
set_option Elab.async false
set_option linter.all false
set_option maxRecDepth 100000
set_option maxHeartbeats 4000000
set_option autoImplicit false
namespace S3
open PySem PySem.Spec PySem.W PyProof.Rows L2 Sh
def mineP (st : List Str) (K : Nat) : List (Key × Sh.D) := st.mapIdx fun i z => (Sum.inr z, .str (kT (i % K)))
def mineF (K : Nat) : Sh.D → Sh.D
  | .pr [.int i, z] => .tup [z, .str (kT (i.toNat % K))]
  | d => d
theorem mine_eq (st : List Str) (K : Nat) : (enumD (st.map Sh.D.str)).map (mineF K) = (mineP st K).map Sh.pairD := by
  refine List.ext_getElem? fun i => ?_
  unfold enumD mineP
  rw [List.getElem?_map, List.getElem?_map, List.getElem?_mapIdx, List.getElem?_mapIdx, List.getElem?_map]
  cases st[i]? with
  | none => rfl
  | some z => rfl
theorem mine_keys (st : List Str) (K : Nat) : (mineP st K).map (·.1) = st.map Sum.inr := by
  refine List.ext_getElem? fun i => ?_
  unfold mineP
  rw [List.getElem?_map, List.getElem?_map, List.getElem?_mapIdx]
  cases st[i]? with
  | none => rfl
  | some z => rfl
theorem mine_nodup {st : List Str} (h : st.Nodup) (K : Nat) : ((mineP st K).map (·.1)).Nodup := by
  rw [mine_keys]
  exact List.pairwise_map.mpr (h.imp fun n e => n (Sum.inr.inj e))
theorem mine_at {st : List Str} (h : st.Nodup) {K i : Nat} {z : Str} (hz : st[i]? = some z) : valD (mergeD (mineP st K)) (Sum.inr z) = some (.str (kT (i % K))) := by
  rw [mergeD_nodup (mine_nodup h K)]
  refine valD_at (i := i) (mine_nodup h K) ?_
  unfold mineP
  rw [List.getElem?_mapIdx, hz]
  rfl
/-! the woven cards -/
def wovS (st : List Str) (m : Nat) (ws : List Nat) : List Str := (gilW m st.length ws).map fun i => st.getD i ""
theorem riff_map {α β : Type} (f : α → β) (a0 : α) (b0 : β) (xs : List α) {ws : List Nat} (hw : wordOk ws) (h : xs.length = ws.length) : riffP b0 (xs.map f) ws = (riffP a0 xs ws).map f := by
  unfold riffP
  rw [List.map_map]
  refine List.map_congr_left fun k hk => ?_
  have hk := List.mem_range.mp hk
  have := rifI_lt hw (List.getElem?_eq_getElem hk)
  simp only [Function.comp]
  rw [List.getD_eq_getElem?_getD, List.getD_eq_getElem?_getD, List.getElem?_map, List.getElem?_eq_getElem (by omega)]
  rfl
theorem wov_eq (st : List Str) (m : Nat) {ws : List Nat} (hw : wordOk ws) (h : ws.length = st.length) : riffP Sh.D.non (((st.map Sh.D.str).take m).reverse ++ (st.map Sh.D.str).drop m) ws = (wovS st m ws).map .str := by
  have e : ((st.map Sh.D.str).take m).reverse ++ (st.map Sh.D.str).drop m = (gilN m st.length).map fun i => Sh.D.str (st.getD i "") := by
    unfold gilN
    rw [List.map_append, List.map_reverse, List.map_take, List.map_drop]
    have : st.map Sh.D.str = (List.range st.length).map fun i => Sh.D.str (st.getD i "") := by
      conv => lhs; rw [range_row st ("" : Str)]
      rw [List.map_map]
      rfl
    rw [this]
  have hl : (gilN m st.length).length = ws.length := by
    unfold gilN
    rw [List.length_append, List.length_reverse, List.length_take, List.length_drop, List.length_range]
    omega
  rw [e, riff_map _ 0 _ _ hw hl]
  unfold wovS gilW
  rw [List.map_map]
  rfl
theorem riff_snoc {α : Type} {x0 : α} {X Y : List α} {ws : List Nat} {t c : Nat} (hw : wordOk ws) (hx : X.length = ws.count 108) (hy : Y.length = ws.count 114) (hc : ws[t]? = some c) :
    (riffP x0 (X ++ Y) ws).take (t + 1) = (riffP x0 (X ++ Y) ws).take t ++ (if c = 108 then (X.drop ((ws.take t).count 108)).take 1 else (Y.drop ((ws.take t).count 114)).take 1) := by
  have hlt := (List.getElem?_eq_some_iff.mp hc).1
  have hg : ws.getD t 0 = c := by rw [List.getD_eq_getElem?_getD, hc]; rfl
  have one : ∀ {Z : List α} {a : Nat}, a < Z.length → (Z.drop a).take 1 = [Z.getD a x0] := fun {Z a} h => by
    rw [List.getD_eq_getElem?_getD, List.getElem?_eq_getElem h, List.drop_eq_getElem_cons h]
    rfl
  have hget : (riffP x0 (X ++ Y) ws)[t]? = some ((X ++ Y).getD (rifI ws t) x0) := by
    unfold riffP
    rw [List.getElem?_map, List.getElem?_range hlt]
    rfl
  rw [take_snoc hget]
  congr 1
  unfold rifI
  rw [hg]
  rcases hw c (List.mem_of_getElem? hc) with rfl | rfl
  · have := count_le_of (b := 108) hc
    simp at this
    rw [if_pos rfl, if_pos rfl, one (by omega), List.getD_eq_getElem?_getD, List.getElem?_append_left (by omega), List.getD_eq_getElem?_getD]
  · have := count_le_of (b := 114) hc
    simp at this
    have e : ¬ ((114 : Nat) = 108) := by decide
    rw [if_neg e, if_neg e, one (by omega), List.getD_eq_getElem?_getD, List.getElem?_append_right (by omega), List.getD_eq_getElem?_getD, ← hx, Nat.add_sub_cancel_left]
theorem wov_mem {st : List Str} {m : Nat} {ws : List Nat} (hw : wordOk ws) (h1 : ws.count 108 = m) (h2 : ws.length = st.length) {t : Nat} (ht : t < st.length) : ∃ i, i < st.length ∧ (gilW m st.length ws)[t]? = some i ∧ (wovS st m ws)[t]? = some (st.getD i "") := by
  obtain ⟨c, hc⟩ : ∃ c, ws[t]? = some c := ⟨_, List.getElem?_eq_getElem (by omega)⟩
  have hg := gil_get hw h1 h2 hc
  refine ⟨_, ?_, hg, by unfold wovS; rw [List.getElem?_map, hg]; rfl⟩
  have hwc := word_count hw
  rcases hw c (List.mem_of_getElem? hc) with rfl | rfl
  · have := count_le_of (b := 108) hc
    simp at this
    rw [if_pos rfl]
    omega
  · have := count_le_of (b := 114) hc
    simp at this
    rw [if_neg (by decide)]
    omega
/-- a card's kind -/
def kindF (st : List Str) (K : Nat) : Sh.D → Sh.D
  | .str z => .str (kT (st.idxOf z % K))
  | d => d
theorem kind_row {st : List Str} {m K : Nat} {ws : List Nat} (hn : st.Nodup) (hw : wordOk ws) (h1 : ws.count 108 = m) (h2 : ws.length = st.length) : ((wovS st m ws).map Sh.D.str).map (kindF st K) = (rowK K m st.length ws).map .str := by
  unfold wovS rowK
  rw [List.map_map, List.map_map, List.map_map]
  refine List.map_congr_left fun i hi => ?_
  obtain ⟨t, ht⟩ := List.getElem?_of_mem hi
  have hlt := (List.getElem?_eq_some_iff.mp ht).1
  rw [gil_len, h2] at hlt
  obtain ⟨j, hj, e, _⟩ := wov_mem hw h1 h2 hlt
  rw [ht] at e
  cases e
  simp only [Function.comp, kindF]
  rw [List.getD_eq_getElem?_getD, List.getElem?_eq_getElem hj, Option.getD_some, hn.idxOf_getElem i hj]
end S3
set_option Elab.async false
set_option linter.all false
set_option maxRecDepth 100000
set_option maxHeartbeats 4000000
set_option autoImplicit false
namespace S3
open PySem PySem.Spec PySem.W PyProof.Rows L2 Sh
section
variable {P : Program} {w : World} {K : PySem.W.Frag} {mg : Str → Option Value} {base : Heap} {T : Tb} {TE SE CD CS : Addr}
theorem law_d {k : Nat} {cd : Value} {E : XK} {cl : List (Str × Addr)} {A : AE} (L0 : LawK P w K mg base T k TE SE CD CS) {W : OW} {x0 x1 x2 x3 x4 x5 x6 x7 x8 x9 x10 x11 x13 : Option Sh.D} {kn pc m : Nat} {st : List Str} {ws : List Nat} (k1 : 2 ≤ kn) (k2 : kn ≤ 4) (p1 : 1 ≤ pc) (p2 : pc ≤ 6) (hok : rowOk st = true) (hl : st.length = kn * pc) (hm : m ≤ kn * pc) (hw : wordOk ws) (hc : ws.count 108 = m) (hwl : ws.length = kn * pc)
    (h : ∀ (x16 x17 x18 x19 x20 x21 x22 x23 x24 : Option Sh.D), SS (FL P w K mg base T k cd E cl) (lawBody.drop 19) (GL [x0, x1, x2, x3, x4, x5, x6, x7, x8, x9, x10, x11, some (.int (kn : Nat)), x13, some (.int ((kn * pc : Nat) : Int)), some (.lst (st.map .str)), x16, x17, x18, x19, x20, x21, x22, x23, x24]) W A) :
    SS (FL P w K mg base T k cd E cl) (lawBody.drop 13) (GL [x0, x1, x2, x3, x4, x5, x6, x7, x8, x9, x10, x11, some (.int (kn : Nat)), x13, some (.int ((kn * pc : Nat) : Int)), some (.lst (st.map .str)), some (.int (m : Nat)), some (.str ⟨ws.toArray⟩)]) W A := by
  have hnd := rowOk_nodup hok
  have hoc := rowOk_all hok
  have hst : ∀ z ∈ st, PyData.strOk z = true := fun z hz => okc_strOk (hoc z hz)
  have hle : kn * pc ≤ 24 := Nat.mul_le_mul k2 p2
  have hge : 1 ≤ kn * pc := Nat.mul_le_mul (show 1 ≤ kn by omega) p1
  generalize hn : kn * pc = n at hl hm hwl hle hge h ⊢
  have hdl : (st.map Sh.D.str).length = n := by rw [List.length_map, hl]
  refine ss_cons (s1_set 18 rfl (.inr rfl) (evr_of (END.ev (end_dictP (ks := mineP st kn) (by rfl) L0.dict (EN.ev (EN.to (en_lcM (own := [("k", 36), ("one", 37)]) (mineF kn) sc_law.nd (by rfl) (ei_enumL (ds := st.map .str) (by rfl) L0.enum (ev_var 15 rfl (.inr (.inl rfl)) rfl) .lst) .lst (fun y hy => ?_) ?_) (mine_eq st kn))) .lst)) ?_))
  · obtain ⟨i, hi⟩ := List.getElem?_of_mem hy
    obtain ⟨x, hx, rfl⟩ := enumD_get hi
    rw [List.getElem?_map] at hx
    obtain ⟨z, hz, rfl⟩ := Option.map_eq_some_iff.mp hx
    have hlt : i < n := by rw [← hl]; exact (List.getElem?_eq_some_iff.mp hz).1
    have hr : i % kn < 4 := Nat.lt_of_lt_of_le (Nat.mod_lt _ (by omega)) k2
    have hlg : ∀ j, j < 4 → (((j : Nat) : Int)).natAbs.log2 < 1920 ∧ (("k" : Str)).length + (Str.ofString (toString ((j : Nat) : Int))).length ≤ sizeLine := by decide +kernel
    exact turn_map (eg_pr (fun X h => h) (egs_cons (eg_name (fun X h => h) 36 rfl (.inl (by rfl))) (egs_cons (eg_name (fun X h => h) 37 rfl (.inl (by rfl))) egs_nil)) rfl) (by decide) (ev_tup (ea_cons (ev_var 37 rfl (.inl (by rfl)) rfl) (ea_cons (ev_bin ev_str (ev_strI (by rfl) L0.str (EV.to (d1 := .int ((i % kn : Nat) : Int)) (ev_bin (ev_var 36 rfl (.inl (by rfl)) rfl) (ev_var 12 rfl (.inr (.inl (by rfl))) rfl) (.modI _ _ (by omega))) (by rw [Int.natCast_emod])) (hlg _ hr).1) (.addS _ _ (hlg _ hr).2)) ea_nil)) (Nat.le_of_ble_eq_true rfl))
  · rw [enumD_len, hdl]
    exact Nat.lt_of_le_of_lt hle (by decide)
  have hz2 : (⟨ws.toArray⟩ : Str).length ≤ 1000 := by rw [len_cps]; simp; omega
  have hcps : (⟨ws.toArray⟩ : Str).cps.toList = ws := by simp
  have hmag := SMagic.ok (TE := TE) (SE := SE) (.lst (st.map .str)) (st.map .str) m ⟨ws.toArray⟩ .lst (by omega) hz2 (by omega) (by rw [hcps]; exact hc) (by rw [len_cps, hcps, hdl, hwl]) (by rw [hcps]; exact hw)
  rw [hcps, wov_eq st m hw (by omega)] at hmag
  refine ss_cons (s1_set 19 rfl (.inl rfl) (evr_of (ev_pure L0.magic (Nat.le_refl _) (by rfl) (ea_cons (ev_var 15 rfl (.inr (.inl rfl)) rfl) (ea_cons (ev_var 16 rfl (.inl rfl) rfl) (ea_cons (ev_var 17 rfl (.inl rfl) rfl) ea_nil))) hmag) ?_))
  have hsz : (cutD (st.map Sh.D.str) none (some (m : Int))).length ≤ sizeLine := by
    rw [cutD_to, List.length_take]
    exact Nat.le_trans (show _ ≤ 24 by omega) (by decide)
  have hX : ((st.map Sh.D.str).take m).reverse.length = ws.count 108 := by rw [List.length_reverse, List.length_take, hc]; omega
  have hwc := word_count hw
  have hY : ((st.map Sh.D.str).drop m).length = ws.count 114 := by rw [List.length_drop]; omega
  have hwv := wov_eq st m hw (by omega)
  generalize hXe : ((st.map Sh.D.str).take m).reverse = X at hX hwv
  generalize hYe : (st.map Sh.D.str).drop m = Y at hY hwv
  have hwvl : (wovS st m ws).length = n := by
    unfold wovS
    rw [List.length_map, gil_len, hwl]
  refine ss_cons (s1_par3 20 21 22 rfl rfl rfl (by decide) (by decide) (by decide) rfl rfl rfl (ear_of (ea_cons (EV.to (ev_revQ (EV.to (ev_sliceQ (ev_var 15 rfl (.inr (.inl rfl)) rfl) eo_none (eo_some (ev_var 16 rfl (.inl rfl) rfl)) .lst) (congrArg Sh.D.lst (cutD_to _ m))) eo_neg1 .lst (by rw [← cutD_to]; exact hsz)) (congrArg Sh.D.lst hXe)) (ea_cons (EV.to (ev_sliceQ (ev_var 15 rfl (.inr (.inl rfl)) rfl) (eo_some (ev_var 16 rfl (.inl rfl) rfl)) eo_none .lst) (congrArg Sh.D.lst ((cutD_from _ m).trans hYe))) (ea_cons (EN.ev (en_lst ea_nil (by decide))) ea_nil))) ⟨_, _, _, rfl, ?_⟩) (fun env he => by
    obtain ⟨a1, a2, a3, a4, a5, a6, a7, a8, a9⟩ := env
    cases he
    rfl))
  refine ss_cons (s1_for (ei_str (ev_var 17 rfl (.inl rfl) rfl)) (fun t Γ' W' => (∃ x23, Γ' = GL [x0, x1, x2, x3, x4, x5, x6, x7, x8, x9, x10, x11, some (.int (kn : Nat)), x13, some (.int ((n : Nat) : Int)), some (.lst (st.map .str)), some (.int (m : Nat)), some (.str ⟨ws.toArray⟩), some (.dct (mergeD (mineP st kn))), some (.tup ((wovS st m ws).map .str)), some (.lst (X.drop ((ws.take t).count 108))), some (.lst (Y.drop ((ws.take t).count 114))), some (.lst (((wovS st m ws).take t).map .str)), x23]) ∧ W' = W) ⟨⟨none, rfl⟩, rfl⟩ (fun _ _ _ _ => trivial) (fun t dd Γ' W' hdd hI => ?_) (fun Γ' W' hI => ?_))
  · obtain ⟨⟨x23, rfl⟩, rfl⟩ := hI
    obtain ⟨c, hct, rfl⟩ := txtD_get hdd
    rw [hcps] at hct
    have hlt := (List.getElem?_eq_some_iff.mp hct).1
    have hsn := riff_snoc (x0 := Sh.D.non) hw hX hY hct
    rw [hwv, ← List.map_take, ← List.map_take] at hsn
    have hcl := take_snoc hct
    have eL : decide ((⟨#[c]⟩ : Str) = "l") = decide (c = 108) := by rw [ch_l, sign_eq]
    have eR : decide ((⟨#[c]⟩ : Str) = "r") = decide (c = 114) := by rw [ch_r, sign_eq]
    refine ⟨_, _, eg_name (fun X h => h.toG) 23 rfl (.inl rfl), ?_⟩
    refine ss_cons (s1_set 22 rfl (.inl rfl) (evr_of (EN.ev (EN.to (en_cat (ev_var 22 rfl (.inl rfl) rfl) (ev_if (r := decide (c = 108)) (o := .ok (.lst (if c = 108 then (X.drop ((ws.take t).count 108)).take 1 else (Y.drop ((ws.take t).count 114)).take 1))) (ET.to (et_cmpR (ev_var 23 rfl (.inl rfl) rfl) ev_str (.eqS _ _)) eL) (fun hr => EV.to (EN.ev (EN.to (en_slice (ev_var 20 rfl (.inl rfl) rfl) eo_none (eo_some ev_int) .lst) (cutD_to _ 1))) (by rw [if_pos (of_decide_eq_true hr)])) (fun hr => EV.to (EN.ev (EN.to (en_slice (ev_var 21 rfl (.inl rfl) rfl) eo_none (eo_some ev_int) .lst) (cutD_to _ 1))) (by rw [if_neg (of_decide_eq_false hr)]))) .lst .lst ?_) hsn.symm)) ?_))
    · have : (if c = 108 then (X.drop ((ws.take t).count 108)).take 1 else (Y.drop ((ws.take t).count 114)).take 1).length ≤ 1 := by
        split
        · rw [List.length_take]; omega
        · rw [List.length_take]; omega
      rw [List.length_map, List.length_take]
      exact Nat.le_trans (show _ ≤ 100 by omega) (by decide)
    refine ss_one (s1_par 20 21 rfl rfl (by decide) rfl rfl (ear_of (ea_cons (EN.ev (en_slice (ev_var 20 rfl (.inl rfl) rfl) (eo_some (ev_intB (by rfl) L0.int (ev_cmpR (ev_var 23 rfl (.inl rfl) rfl) ev_str (.eqS _ _)))) eo_none .lst)) (ea_cons (EN.ev (en_slice (ev_var 21 rfl (.inl rfl) rfl) (eo_some (ev_intB (by rfl) L0.int (ev_cmpR (ev_var 23 rfl (.inl rfl) rfl) ev_str (.eqS _ _)))) eo_none .lst)) ea_nil)) ⟨_, _, rfl, ⟨some (.str ⟨#[c]⟩), ?_⟩, rfl⟩) (fun env he => by
      obtain ⟨a1, a2, a3, a4, a5, a6, a7, a8, a9⟩ := env
      cases he
      rfl))
    rw [eL, eR, hcl, List.count_append, List.count_append]
    have cut1 : ∀ {Z : List Sh.D} {a : Nat} {b : Bool}, cutD (Z.drop a) (some (if b = true then 1 else 0)) none = Z.drop (a + if b = true then 1 else 0) := fun {Z a b} => by
      cases b with
      | true =>
        rw [if_pos rfl, if_pos rfl, show (some (1 : Int)) = some ((1 : Nat) : Int) from rfl, cutD_from, List.drop_drop]
      | false =>
        rw [if_neg Bool.false_ne_true, if_neg Bool.false_ne_true, show (some (0 : Int)) = some ((0 : Nat) : Int) from rfl, cutD_from, List.drop_drop]
    rw [cut1, cut1]
    rcases hw c (List.mem_of_getElem? hct) with rfl | rfl
    · rfl
    · rfl
  · obtain ⟨⟨x23, rfl⟩, rfl⟩ := hI
    have htk : ∀ q, n ≤ q → (wovS st m ws).take q = wovS st m ws := fun q hq => List.take_of_length_le (by omega)
    rw [htk _ (by rw [List.length_map, hcps, hwl]; exact Nat.le_refl _)]
    have hkr := kind_row (K := kn) hnd hw hc (by omega : ws.length = st.length)
    have hn2 : st.length = kn * pc := by omega
    have r1 := fun {i : Nat} (hi : i < pc) => piece_row (i := i) hw hc (by omega : ws.length = st.length) k1 k2 hn2 hi
    have r2 := names_row hw hc (by omega : ws.length = st.length) k1 k2 hn2 p1
    have r3 := row_len hw hc (by omega : ws.length = st.length) k1 k2 hn2
    have r4 := row_strOk hw hc (by omega : ws.length = st.length) k1 k2 hn2
    have r5 := fits_row hw hc (by omega : ws.length = st.length) k1 k2 hn2 p1
    have r6 := pair_row hw hc (by omega : ws.length = st.length) k1 k2 hn2 p1
    have hwm : ∀ z ∈ wovS st m ws, z ∈ st := fun z hz => by
      obtain ⟨t, ht⟩ := List.getElem?_of_mem hz
      have hlt := (List.getElem?_eq_some_iff.mp ht).1
      obtain ⟨j, hj, _, e⟩ := wov_mem hw hc (by omega : ws.length = st.length) (show t < st.length by omega)
      rw [ht] at e
      cases e
      rw [List.getD_eq_getElem?_getD, List.getElem?_eq_getElem hj]
      exact List.getElem_mem hj
    generalize rowK kn m st.length ws = row at hkr r1 r2 r3 r4 r5 r6
    refine ss_cons (s1_set 24 rfl (.inr rfl) (evr_of (EN.ev (EN.to (en_lcM (own := [("one", 37)]) (kindF st kn) sc_law.nd (by rfl) (ei_seq (ev_var 19 rfl (.inl rfl) rfl) .tup) trivial (fun x hx => ?_) ?_) hkr)) ?_) (fun env he => sw_cell (by rw [he]; rfl) (by rw [he]; rfl)))
    · obtain ⟨z, hz, rfl⟩ := List.mem_map.mp hx
      have hzm := hwm z hz
      have hix := List.idxOf_lt_length_of_mem hzm
      exact turn_map (eg_name (fun X h => h) 37 rfl (.inl (by rfl))) (by decide) (ev_dget (q := .inr z) (ev_var 18 rfl (.inr (.inl (by rfl))) rfl) (ev_var 37 rfl (.inl (by rfl)) rfl) (.inl rfl) (mine_at hnd (by rw [List.getElem?_eq_getElem hix, List.getElem_idxOf hix])))
    · rw [List.length_map, hwvl]
      exact Nat.lt_of_le_of_lt hle (by decide)
    have hrl : row.length = n := by omega
    refine ss_cons (s1_ifF (et_w (ew_orF (et_cmpR (EN.ev (en_list (by rfl) L0.D.list (ev_var 19 rfl (.inl rfl) rfl) (.tup _))) (ev_var 22 rfl (.inl rfl) rfl) (strs_ne _ fun z hz => hst z (hwm z hz))) (ew_orF (et_not (et_val (EV.to (ev_pure L0.pair (Nat.le_refl _) (by rfl) (ea_cons (ev_var 19 rfl (.inl rfl) rfl) (ea_cons (ev_var 24 rfl (.inr (.inl rfl)) rfl) ea_nil)) (.ok _ ((wovS st m ws).map .str) row .tup (fun z hz => (r4 z hz).1) (by omega) (by rw [List.length_map, hwvl, ← hl]; exact r6))) (congrArg Sh.D.bl r5)))) (ew_or1 (ET.to (et_cmpR (EN.ev (EN.to (en_lcF (own := [("k", 36)]) (fun _ => none) sc_law.nd (by rfl) (ei_range3 (n := n) (m := kn) (by rfl) L0.D.range (ea_cons ev_int (ea_cons (ev_var 14 rfl (.inl rfl) rfl) (ea_cons (ev_var 12 rfl (.inr (.inl rfl)) rfl) ea_nil))) (by omega) (by omega) (by omega)) trivial (fun x hx => ?_) ?_) (show _ = ([] : List Str).map Sh.D.str by simp))) (EN.ev (en_lst (ds := ([] : List Str).map .str) ea_nil (by decide))) (strs_ne [] (by simp))) rfl))))) (ss_nil (h _ _ _ _ _ _ _ _ _)))
    · obtain ⟨i, hi, rfl⟩ := List.mem_map.mp hx
      have hi : i < pc := by
        have := List.mem_range.mp hi
        rwa [← hl, cnt_pieces hw hc (by omega : ws.length = st.length) k1 k2 hn2] at this
      have e0 : (0 + (i : Int) * ((kn : Nat) : Int)) = ((i * kn : Nat) : Int) := by push_cast; omega
      rw [e0]
      have hcut : cutD (row.map Sh.D.str) (some ((i * kn : Nat) : Int)) (some (((i * kn : Nat) : Int) + ((kn : Nat) : Int))) = (pieceS row kn i).map Sh.D.str := by
        unfold pieceS
        rw [show ((i * kn : Nat) : Int) + ((kn : Nat) : Int) = ((i * kn + kn : Nat) : Int) by push_cast; rfl, cutD_mid, List.map_take, List.map_drop, Nat.add_sub_cancel_left]
      have hp := r1 hi
      have hpn : (pieceS row kn i).Nodup := hp.nodup_iff.mpr (kNames_facts kn (by omega)).2
      have hpl : (pieceS row kn i).length = kn := by
        rw [hp.length_eq]
        unfold kNames
        rw [List.length_map, List.length_range]
      have hcnt : (mergeD ((pieceS row kn i).map fun z => ((Sum.inr z : Key), Sh.D.int 1))).length = kn := by rw [dict_count, count_nodup hpn, hpl]
      refine Sh.turn_if (r := false) (z := Sh.D.int 1) (eg_name (fun X h => h) 36 rfl (.inl (by rfl))) (by decide) (ET.to (et_cmpR (ev_lenN (by rfl) L0.D.len (end_dictP (ks := (pieceS row kn i).map fun z => ((Sum.inr z : Key), Sh.D.int 1)) (by rfl) L0.dict (EN.ev (EN.to (en_lcM (own := [("kind", 38)]) (fun x => .tup [x, .int 1]) sc_law.nd (by rfl) (ei_list (EN.ev (EN.to (en_slice (ev_var 24 rfl (.inr (.inl (by rfl))) rfl) (eo_some (ev_var 36 rfl (.inl (by rfl)) rfl)) (eo_some (ev_bin (ev_var 36 rfl (.inl (by rfl)) rfl) (ev_var 12 rfl (.inr (.inl (by rfl))) rfl) (.addI _ _))) .lst) hcut)) .lst) .lst (fun y hy => ?_) ?_) (by rw [List.map_map, List.map_map]; rfl))) .lst)) (ev_var 12 rfl (.inr (.inl (by rfl))) rfl) (.neI _ _)) (by rw [hcnt]; simp)) fun q => (by cases q)
      · obtain ⟨z, hz, rfl⟩ := List.mem_map.mp hy
        exact turn_map (eg_name (fun X h => h) 38 rfl (.inl (by rfl))) (by decide) (ev_tup (ea_cons (ev_var 38 rfl (.inl (by rfl)) rfl) (ea_cons ev_int ea_nil)) (Nat.le_of_ble_eq_true rfl))
      · rw [List.length_map, hpl]
        exact Nat.lt_of_le_of_lt (show _ ≤ 4 by omega) (by decide)
    · unfold rngC
      rw [List.length_map, List.length_range, ← hl, cnt_pieces hw hc (by omega : ws.length = st.length) k1 k2 hn2]
      exact Nat.lt_of_le_of_lt p2 (by decide)
end
end S3
set_option Elab.async false
set_option linter.all false
set_option maxRecDepth 100000
set_option maxHeartbeats 4000000
set_option autoImplicit false
namespace S3
open PySem PySem.Spec PySem.W PyProof.Rows L2 Sh
def stepK (s : Dice) : Dice × Str := (rollN s 2, kT (nat12 s 2))
theorem stepK_ok (s : Dice) : PyData.strOk (stepK s).2 = true := (kT_facts _ (Nat.lt_trans (nat12_eq s (n := 2) (by decide)).1 (by decide))).1
theorem dict_keys (zs : List Str) : (mergeD (zs.map fun z => ((Sum.inr z : Key), Sh.D.int 1))).map (·.1) = (onceK zs).map .inr := by
  unfold mergeD
  rw [fold_keys (fun kd : Key × Sh.D => kd.1) (fun kd => kd.2), List.map_map, show ((fun kd : Key × Sh.D => kd.1) ∘ fun z : Str => ((Sum.inr z : Key), Sh.D.int 1)) = Sum.inr from rfl]
  have := keysOf_inr zs []
  rw [List.map_nil] at this
  exact this
/-- the pieces that do not fit -/
def offL (ks : List Str) : List Int := ((List.range (cntC ks.length (namesOf ks).length)).filter fun i => !decide (srtS (pieceS ks (namesOf ks).length i) = namesOf ks)).map fun _ => 1
theorem off_fits (ks : List Str) : decide (offL ks = []) = fitsB ks := by
  unfold offL fitsB
  rw [Bool.eq_iff_iff, decide_eq_true_iff, List.map_eq_nil_iff, List.filter_eq_nil_iff, List.all_eq_true]
  simp
theorem names_pos {ks : List Str} (h : ks ≠ []) : 0 < (namesOf ks).length := by
  rw [names_len]
  cases ks with
  | nil => exact absurd rfl h
  | cons a r =>
    have : a ∈ onceK (a :: r) := (keysOf_mem _ _ _).mpr (.inr List.mem_cons_self)
    exact List.length_pos_of_mem this
def offF (ks : List Str) (x : Sh.D) : Option Sh.D := if !decide (srtS ((ks.drop (Sh.intD x).toNat).take (namesOf ks).length) = namesOf ks) then some (.int 1) else none
theorem off_eq (ks : List Str) : (rngC 0 ((namesOf ks).length : Nat) (cntC ks.length (namesOf ks).length)).filterMap (offF ks) = (offL ks).map .int := by
  unfold rngC offL
  rw [List.filterMap_map, List.map_map]
  generalize List.range (cntC ks.length (namesOf ks).length) = l
  induction l with
  | nil => rfl
  | cons i l ih =>
    rw [List.filterMap_cons, List.filter_cons, ih]
    have e : (offF ks ∘ fun i : Nat => Sh.D.int (0 + (i : Int) * (((namesOf ks).length : Nat) : Int))) i = if !decide (srtS (pieceS ks (namesOf ks).length i) = namesOf ks) then some (Sh.D.int 1) else none := by
      show offF ks (Sh.D.int (0 + (i : Int) * (((namesOf ks).length : Nat) : Int))) = _
      unfold offF pieceS
      rw [show Sh.intD (Sh.D.int (0 + (i : Int) * (((namesOf ks).length : Nat) : Int))) = ((i * (namesOf ks).length : Nat) : Int) by show (0 + (i : Int) * (((namesOf ks).length : Nat) : Int)) = _; push_cast; omega, Int.toNat_natCast]
    simp only [e]
    by_cases h : srtS (pieceS ks (namesOf ks).length i) = namesOf ks <;> simp [h]
theorem col_in {z : Str} (h : okc z = true) : decide ((⟨#[suitsL.getD (suN z) 0]⟩ : Str) ∈ (["D", "H"] : List Str)) = redB z := by
  have hs := suit_at h
  obtain ⟨a, b, e, _, _⟩ := okc_two h
  rw [e] at hs
  have hb : b = suitsL.getD (suN z) 0 := Option.some.inj (show some b = _ from hs)
  unfold redB
  rw [e, ← hb]
  refine decide_eq_decide.mpr ?_
  rw [show ("D" : Str) = ⟨#[68]⟩ by decide +kernel, show ("H" : Str) = ⟨#[72]⟩ by decide +kernel, show ("DH" : Str).cps.toList = [68, 72] by decide +kernel]
  simp
section
variable {P : Program} {w : World} {K : PySem.W.Frag} {mg : Str → Option Value} {base : Heap} {T : Tb} {TE SE CD CS : Addr}
theorem law_e {k : Nat} {cd : Value} {E : XK} {cl : List (Str × Addr)} {A : AE} (L0 : LawK P w K mg base T k TE SE CD CS) (lt : LTab (FL P w K mg base T (k + 2) cd E cl)) {p L : Addr} {s : Dice} {W0 : OW} {x0 x1 x3 x4 x5 x6 x7 x8 x9 x10 x11 x12 x13 x16 x17 x18 x19 x20 x21 x22 x23 x24 : Option Sh.D} {n : Nat} {st : List Str} (hok : rowOk st = true) (hl : st.length = n) (hle : n ≤ 24) (hge : 1 ≤ n)
    (h : ∀ (s' : Dice) (x24 x25 x26 x27 : Option Sh.D), SS (FL P w K mg base T (k + 2) cd E cl) (lawBody.drop 24) (GL [x0, x1, some (.ptr p), x3, x4, x5, x6, x7, x8, x9, x10, x11, x12, x13, some (.int (n : Nat)), some (.lst (st.map .str)), x16, x17, x18, x19, x20, x21, x22, x23, x24, x25, x26, x27]) (W3 L p s' W0) A) :
    SS (FL P w K mg base T (k + 2) cd E cl) (lawBody.drop 19) (GL [x0, x1, some (.ptr p), x3, x4, x5, x6, x7, x8, x9, x10, x11, x12, x13, some (.int (n : Nat)), some (.lst (st.map .str)), x16, x17, x18, x19, x20, x21, x22, x23, x24]) (W3 L p s W0) A := by
  have L2 := L0.mono (Nat.le_add_right k 2)
  have hoc := rowOk_all hok
  have hdl : (st.map Sh.D.str).length = n := by rw [List.length_map, hl]
  refine ss_cons (s1_set 24 rfl (.inr rfl) (evr_of (EN.ev (en_lcW (own := [("one", 37)]) stepK Sh.D.str (fun s => W3 L p s W0) s sc_law.nd (by rfl) (ei_list (ev_var 15 rfl (.inr (.inl rfl)) rfl) .lst) rfl (fun _ => .lst) (fun s' d hd => ?_) ?_)) ?_) (fun env he => sw_cell (by rw [he]; rfl) (by rw [he]; rfl)))
  · obtain ⟨z, hz, rfl⟩ := List.mem_map.mp hd
    have h2 := (nat12_eq s' (n := 2) (by decide)).1
    have hlg : ∀ j, j < 4 → (((j : Nat) : Int)).natAbs.log2 < 1920 ∧ (("k" : Str)).length + (Str.ofString (toString ((j : Nat) : Int))).length ≤ sizeLine := by decide +kernel
    exact ⟨_, _, eg_name (fun X h => h) 37 rfl (.inl (by rfl)), by decide, ev_bin ev_str (ev_strI (by rfl) L2.str (roll_law (n := 2) L2.roll rfl (.inr (.inl (by rfl))) rfl (by rfl) (by decide) (by decide)) (hlg _ (by omega)).1) (.addS _ _ (hlg _ (by omega)).2)⟩
  · rw [hdl]
    exact Nat.lt_of_le_of_lt hle (by decide)
  rw [hdl]
  have hln := runG_len stepK s n
  have hal := runG_all stepK s (Pr := fun z => PyData.strOk z = true) stepK_ok n
  generalize (runG stepK s n).1 = s2
  generalize (runG stepK s n).2 = row at hln hal ⊢
  have hne : row ≠ [] := fun e => by rw [e] at hln; simp at hln; omega
  have hnp := names_pos hne
  have hno := names_len row
  have hol := once_len row
  have hns : ∀ z ∈ namesOf row, PyData.strOk z = true := fun z hz => hal z (names_mem row z hz)
  refine ss_cons (s1_set 25 rfl (.inr rfl) (evr_of (EN.ev (en_sortKN (zs := onceK row) (ms := namesOf row) (by rfl) L2.D.sorted (end_dictP (ks := row.map fun z => ((Sum.inr z : Key), Sh.D.int 1)) (by rfl) L2.dict (EN.ev (EN.to (en_lcM (own := [("kind", 38)]) (fun x => .tup [x, .int 1]) sc_law.nd (by rfl) (ei_list (ev_var 24 rfl (.inr (.inl rfl)) rfl) .lst) .lst (fun y hy => ?_) ?_) (by rw [List.map_map, List.map_map]; rfl))) .lst) (dict_keys row) (by omega) (fun ys h1 h2 => srtS_one h1 h2))) ?_))
  · obtain ⟨z, hz, rfl⟩ := List.mem_map.mp hy
    exact turn_map (eg_name (fun X h => h) 38 rfl (.inl (by rfl))) (by decide) (ev_tup (ea_cons (ev_var 38 rfl (.inl (by rfl)) rfl) (ea_cons ev_int ea_nil)) (Nat.le_of_ble_eq_true rfl))
  · rw [List.length_map, hln]
    exact Nat.lt_of_le_of_lt hle (by decide)
  have hnl : ((namesOf row).map Sh.D.str).length = (namesOf row).length := List.length_map _
  refine ss_cons (s1_set 26 rfl (.inl rfl) (evr_of (EV.to (d1 := .bl (decide (n % (namesOf row).length = 0))) (ev_cmpR (ev_bin (ev_var 14 rfl (.inl rfl) rfl) (ev_len (by rfl) L2.D.len (ev_var 25 rfl (.inr (.inl rfl)) rfl) (.lst .lst)) (.modI _ _ (by rw [hnl]; omega))) ev_int (.eqI _ _)) (by
    rw [hnl]
    refine congrArg Sh.D.bl (decide_eq_decide.mpr ?_)
    rw [← Int.natCast_emod]
    omega)) ?_))
  refine ss_cons (s1_set 27 rfl (.inl rfl) (evr_of (EV.to (d1 := .bl (fitsB row)) (ev_cmpR (EN.ev (EN.to (en_lcF (own := [("k", 36)]) (offF row) sc_law.nd (by rfl) (ei_range3 (n := n) (m := (namesOf row).length) (by rfl) L2.D.range (ea_cons ev_int (ea_cons (ev_var 14 rfl (.inl rfl) rfl) (ea_cons (EV.to (ev_len (by rfl) L2.D.len (ev_var 25 rfl (.inr (.inl rfl)) rfl) (.lst .lst)) (by rw [hnl])) ea_nil))) hnp (by omega) (by omega)) trivial (fun x hx => ?_) ?_) (show _ = (offL row).map Sh.D.int by rw [← hln]; exact off_eq row))) (EN.ev (en_lst (ds := ([] : List Int).map .int) ea_nil (by decide))) (.eqD (Py.intsL (offL row)) (Py.intsL []) (shaped_intsL _) (shaped_intsL _) rfl)) (by rw [enc_int.list.eq, off_fits])) ?_))
  · obtain ⟨i, hi, rfl⟩ := List.mem_map.mp hx
    have e0 : (0 + (i : Int) * (((namesOf row).length : Nat) : Int)) = ((i * (namesOf row).length : Nat) : Int) := by push_cast; omega
    rw [e0]
    have hcut : cutD (row.map Sh.D.str) (some ((i * (namesOf row).length : Nat) : Int)) (some (((i * (namesOf row).length : Nat) : Int) + (((namesOf row).length : Nat) : Int))) = ((row.drop (i * (namesOf row).length)).take (namesOf row).length).map Sh.D.str := by
      rw [show ((i * (namesOf row).length : Nat) : Int) + (((namesOf row).length : Nat) : Int) = ((i * (namesOf row).length + (namesOf row).length : Nat) : Int) by push_cast; rfl, cutD_mid, List.map_take, List.map_drop, Nat.add_sub_cancel_left]
    have hpl : ((row.drop (i * (namesOf row).length)).take (namesOf row).length).length < 64 := by
      rw [List.length_take]
      omega
    refine Sh.turn_if (r := !decide (srtS ((row.drop (i * (namesOf row).length)).take (namesOf row).length) = namesOf row)) (eg_name (fun X h => h) 36 rfl (.inl (by rfl))) (by decide) (et_cmpR (EN.ev (en_sortS (zs := (row.drop (i * (namesOf row).length)).take (namesOf row).length) (by rfl) L2.D.sorted (EN.ev (EN.to (en_slice (ev_var 24 rfl (.inr (.inl (by rfl))) rfl) (eo_some (ev_var 36 rfl (.inl (by rfl)) rfl)) (eo_some (ev_bin (ev_var 36 rfl (.inl (by rfl)) rfl) (EV.to (ev_len (by rfl) L2.D.len (ev_var 25 rfl (.inr (.inl (by rfl))) rfl) (.lst .lst)) (by rw [hnl])) (.addI _ _))) .lst) hcut)) .lst hpl (fun ys h1 h2 => srtS_one h1 h2))) (ev_var 25 rfl (.inr (.inl (by rfl))) rfl) (.neD (Py.strsL _) (Py.strsL _) (shaped_strsL fun z hzz => ?_) (shaped_strsL hns) (by rw [enc_str.list.eq]))) fun _ => ev_int
    have := (srtS_perm _).mem_iff.mp hzz
    exact hal z (List.mem_of_mem_drop (List.mem_of_mem_take this))
  · unfold rngC
    rw [List.length_map, List.length_range]
    unfold cntC
    exact Nat.lt_of_le_of_lt (Nat.div_le_self _ _) (Nat.lt_of_le_of_lt (show _ ≤ 100 by omega) (by decide))
  have hcm : (st.map Sh.D.str).map (fun x => Sh.D.str (if redB (strD x) = true then "red" else "black")) = (st.map colS).map .str := by
    rw [List.map_map, List.map_map]
    rfl
  have hcs : ∀ z ∈ st.map colS, PyData.strOk z = true := fun z hz => by
    obtain ⟨y, _, rfl⟩ := List.mem_map.mp hz
    unfold colS
    split <;> decide +kernel
  have hnn : namesOf row ≠ [] := fun e => by rw [e] at hnp; exact absurd hnp (by decide)
  obtain ⟨o, v, ho, ht, hv1, hv2, hcmp⟩ : ∃ (o : Out) (v : Sh.D), SPair TE [.lst (st.map .str), .lst (row.map .str)] [] o [] ∧ toldOut K CS "CardError" o v ∧ (n % (namesOf row).length = 0 → v = .bl (fitsB row)) ∧ (¬ n % (namesOf row).length = 0 → v = .str "CardError") ∧ ∀ W : OW, CmpR W .NotEq v v false := by
    by_cases hg : n % (namesOf row).length = 0
    · refine ⟨_, _, .ok _ (st.map .str) row .lst hal (by omega) ⟨by rw [hdl]; exact hln, hnn, by rw [hdl]; exact hg⟩, rfl, fun _ => rfl, fun q => absurd hg q, fun W => ?_⟩
      have := CmpR.neB (W := W) (fitsB row) (fitsB row)
      rwa [decide_eq_true rfl] at this
    · refine ⟨_, _, .er _ (st.map .str) row .lst hal (by omega) (by omega) (by rw [hdl]; exact fun q => hg q.2.2), ⟨rfl, L2.exT⟩, fun q => absurd q hg, fun _ => rfl, fun W => ?_⟩
      have := CmpR.neS (W := W) "CardError" "CardError"
      rwa [decide_eq_true rfl] at this
  refine ss_cons (s1_ifF (et_w (ew_orF (et_cmpR (ev_told L2.told lt ⟨LamX.lamS_by (by rfl), fun _ => rfl, fun _ _ _ _ _ => rfl⟩ (by rfl) (Nat.le_add_left 2 k) (fun cd E => ev_pure L0.pair (Nat.le_refl _) (by rfl) (ea_cons (ev_var 15 rfl (.inr (.inr rfl)) rfl) (ea_cons (ev_var 24 rfl (.inr (.inr rfl)) rfl) ea_nil)) ho) ht) (ev_if (o := .ok v) (et_val (ev_var 26 rfl (.inl rfl) rfl)) (fun hr => EV.to (ev_var 27 rfl (.inl rfl) rfl) (hv1 (of_decide_eq_true hr)).symm) fun hr => EV.to ev_str (hv2 (of_decide_eq_false hr)).symm) (hcmp _)) (ew_or1 (et_cmpR (EN.ev (en_list (by rfl) L2.D.list (ev_pure L2.col (Nat.le_refl _) (by rfl) (ea_cons (ev_var 15 rfl (.inr (.inl rfl)) rfl) ea_nil) (.ok _ st .lst (by omega) hoc)) (.tup _))) (EN.ev (EN.to (en_lcM (own := [("one", 37)]) (fun x => Sh.D.str (if redB (strD x) = true then "red" else "black")) sc_law.nd (by rfl) (ei_list (ev_var 15 rfl (.inr (.inl rfl)) rfl) .lst) .lst (fun x hx => ?_) (by rw [hdl]; exact Nat.lt_of_le_of_lt hle (by decide))) hcm)) (strs_ne _ hcs))))) (ss_nil (h s2 _ _ _ _)))
  obtain ⟨z, hz, rfl⟩ := List.mem_map.mp hx
  have hzo := hoc z hz
  have hsn : PyData.strOk (⟨#[suitsL.getD (suN z) 0]⟩ : Str) = true := by
    have hh : suN z < 5 ∨ 5 ≤ suN z := Nat.lt_or_ge _ _
    rcases hh with hh | hh
    · exact (by decide +kernel : ∀ i, i < 5 → PyData.strOk (⟨#[suitsL.getD i 0]⟩ : Str) = true) _ hh
    · rw [List.getD_eq_getElem?_getD, List.getElem?_eq_none_iff.mpr (show suitsL.length ≤ suN z from Nat.le_trans (by decide) hh)]
      decide +kernel
  refine turn_map (eg_name (fun X h => h) 37 rfl (.inl (by rfl))) (by decide) (ev_if (r := redB z) (o := .ok (.str (if redB (strD (Sh.D.str z)) = true then "red" else "black"))) (ET.to (et_cmpR (ev_ix (ev_var 37 rfl (.inl (by rfl)) rfl) ev_int (.str (by rw [okc_len hzo]; decide) (suit_at hzo))) (EN.ev (en_lst (ds := (["D", "H"] : List Str).map .str) (ea_cons ev_str (ea_cons ev_str ea_nil)) (Nat.le_of_ble_eq_true rfl))) (.inL (.str _) (Py.strsL ["D", "H"]) (shaped_str hsn) (shaped_strsL (by decide +kernel)) (enc_str.any ["D", "H"] _))) (col_in hzo)) (fun hr => EV.to ev_str ?_) fun hr => EV.to ev_str ?_)
  · show Sh.D.str "red" = Sh.D.str (if redB z = true then "red" else "black")
    rw [if_pos hr]
  · show Sh.D.str "black" = Sh.D.str (if redB z = true then "red" else "black")
    rw [if_neg (by rw [hr]; decide)]
end
end S3
set_option Elab.async false
set_option linter.all false
set_option maxRecDepth 100000
set_option maxHeartbeats 2000000
set_option autoImplicit false
namespace S3
open PySem PySem.Spec PySem.W PyProof.Rows L2 Sh
/-! five cards: two of a suit; the row tells the kept one -/
theorem okc_eq {a b : Str} (ha : okc a = true) (hb : okc b = true) (h1 : rkN a = rkN b) (h2 : suN a = suN b) : a = b := keyV_inj ha hb (by
  show NestedKey.tup [.num (rkN a : Nat), .num (suN a : Nat)] = NestedKey.tup [.num (rkN b : Nat), .num (suN b : Nat)]
  rw [h1, h2])
theorem rk_bound {z : Str} (h : okc z = true) : rkN z ≤ 13 ∧ suN z < 4 := by
  obtain ⟨a, b, e, h1, h2⟩ := okc_two h
  unfold rkN suN
  rw [e]
  have q1 : ranksL.idxOf a < ranksL.length := List.idxOf_lt_length_of_mem h1
  have q2 : suitsL.idxOf b < suitsL.length := List.idxOf_lt_length_of_mem h2
  exact ⟨q1, q2⟩
theorem suit_eq {a b : Str} (ha : okc a = true) (hb : okc b = true) : ((⟨#[suitsL.getD (suN a) 0]⟩ : Str) = ⟨#[suitsL.getD (suN b) 0]⟩) ↔ suN a = suN b := by
  have h1 := (rk_bound ha).2
  have h2 := (rk_bound hb).2
  generalize suN a = i at h1 ⊢
  generalize suN b = j at h2 ⊢
  exact (by decide +kernel : ∀ i, i < 4 → ∀ j, j < 4 → (((⟨#[suitsL.getD i 0]⟩ : Str) = ⟨#[suitsL.getD j 0]⟩) ↔ i = j)) i h1 j h2
theorem two_suit {zs : List Str} (h5 : zs.length = 5) (nd : zs.Nodup) (hok : ∀ z ∈ zs, okc z = true) : ∃ k b, k ∈ zs ∧ b ∈ zs ∧ k ≠ b ∧ suN k = suN b := by
  rcases Classical.em (∃ k b, k ∈ zs ∧ b ∈ zs ∧ k ≠ b ∧ suN k = suN b) with h | h
  · exact h
  · exfalso
    have hn : (zs.map suN).Nodup := List.pairwise_map.mpr (List.Pairwise.imp_of_mem (fun {a b} ha hb n e => h ⟨a, b, ha, hb, n, e⟩) nd)
    have := L2.nat_nodup_len _ (List.range 4) hn fun x hx => by
      obtain ⟨z, hz, rfl⟩ := List.mem_map.mp hx
      exact List.mem_range.mpr (rk_bound (hok z hz)).2
    rw [List.length_map, List.length_range, h5] at this
    omega
theorem hit_ex {zs : List Str} (h5 : zs.length = 5) (nd : zs.Nodup) (hok : ∀ z ∈ zs, okc z = true) : ∃ k b, hitZ zs = some (k, b) ∧ k ∈ zs ∧ b ∈ zs ∧ fitF k b = true := by
  obtain ⟨k, b, hk, hb, hne, hs⟩ := two_suit h5 nd hok
  have ko := hok k hk
  have bo := hok b hb
  have mem : ∀ {k b}, k ∈ zs → b ∈ zs → (k, b) ∈ pairsZ zs zs := fun {k b} hk hb => List.mem_flatMap.mpr ⟨k, hk, List.mem_map.mpr ⟨b, hb, rfl⟩⟩
  have hfit : ∀ {k b}, okc k = true → okc b = true → k ≠ b → suN k = suN b → 1 ≤ farZ k b → farZ k b ≤ 6 → fitF k b = true := fun {k b} ko bo hn hs h1 h2 => by
    unfold fitF
    rw [decide_eq_false hn, decide_eq_true ((suit_eq ko bo).mpr hs), decide_eq_true h1, decide_eq_true h2]
    rfl
  have hr : rkN k ≠ rkN b := fun e => hne (okc_eq ko bo e hs)
  have b1 := (rk_bound ko).1
  have b2 := (rk_bound bo).1
  have p1 := rkN_pos k
  have p2 := rkN_pos b
  have ex : ∃ p ∈ pairsZ zs zs, fitF p.1 p.2 = true := by
    by_cases h : 1 ≤ farZ k b ∧ farZ k b ≤ 6
    · exact ⟨_, mem hk hb, hfit ko bo hne hs h.1 h.2⟩
    · refine ⟨_, mem hb hk, hfit bo ko hne.symm hs.symm ?_ ?_⟩
      · show 1 ≤ farZ b k
        unfold farZ at h ⊢
        omega
      · show farZ b k ≤ 6
        unfold farZ at h ⊢
        omega
  obtain ⟨p, hp, hf⟩ := ex
  have hsome : (hitZ zs).isSome = true := by
    unfold hitZ
    rw [List.find?_isSome]
    exact ⟨p, hp, hf⟩
  obtain ⟨q, hq⟩ := Option.isSome_iff_exists.mp hsome
  have h1 := List.mem_of_find?_eq_some hq
  have h2 := List.find?_some hq
  obtain ⟨k', hk', hm⟩ := List.mem_flatMap.mp h1
  obtain ⟨b', hb', rfl⟩ := List.mem_map.mp hm
  exact ⟨k', b', hq, hk', hb', h2⟩
theorem card_form {z : Str} (h : okc z = true) : z = (⟨#[ranksL.getD (rkN z - 1) 0]⟩ : Str) ++ ⟨#[suitsL.getD (suN z) 0]⟩ := by
  obtain ⟨a, b, e, h1, h2⟩ := okc_two h
  have q1 : ranksL.idxOf a < ranksL.length := List.idxOf_lt_length_of_mem h1
  have q2 : suitsL.idxOf b < suitsL.length := List.idxOf_lt_length_of_mem h2
  refine cps_inj ?_
  show z.cps.toList = (#[ranksL.getD (rkN z - 1) 0] ++ #[suitsL.getD (suN z) 0]).toList
  unfold rkN suN
  rw [e]
  simp only [List.getD_cons_zero, List.getD_cons_succ, Nat.add_sub_cancel]
  rw [List.getD_eq_getElem?_getD, List.getElem?_eq_getElem q1, List.getD_eq_getElem?_getD, List.getElem?_eq_getElem q2, Option.getD_some, Option.getD_some, List.getElem_idxOf q1, List.getElem_idxOf q2]
  rfl
theorem cardLe_trans (a b c : Str) (h1 : cardLe a b = true) (h2 : cardLe b c = true) : cardLe a c = true := by
  unfold cardLe at *
  rw [decide_eq_true_iff] at *
  omega
theorem cardLe_total (a b : Str) : (cardLe a b || cardLe b a) = true := by
  unfold cardLe
  rw [Bool.or_eq_true, decide_eq_true_iff, decide_eq_true_iff]
  omega
/-- one order of three cards -/
theorem rest_one {tl r : List Str} (hok : ∀ z ∈ r, okc z = true) (hp : tl.Perm r) (hs : r.Pairwise fun a b => cardLe a b = true) : restS tl = r := by
  refine List.Perm.eq_of_pairwise (le := fun a b => cardLe a b = true) (fun a b ha hb h1 h2 => ?_) (List.pairwise_mergeSort cardLe_trans cardLe_total tl) hs ((List.mergeSort_perm _ _).trans hp)
  have ha : a ∈ r := hp.mem_iff.mp ((List.mergeSort_perm _ _).mem_iff.mp ha)
  unfold cardLe at h1 h2
  rw [decide_eq_true_iff] at h1 h2
  exact okc_eq (hok a ha) (hok b hb) (by omega) (by omega)
theorem perm_three : ∀ n, n < 6 → ∀ x y z : Str, (permOf [x, y, z] (ordersL.getD n [])).Perm [x, y, z] := fun n hn x y z => by
  match n, hn with
  | 0, _ => exact .refl _
  | 1, _ => exact (List.Perm.swap _ _ _).cons _
  | 2, _ => exact .swap _ _ _
  | 3, _ => exact List.perm_middle (l₁ := [y, z]) (l₂ := []) (a := x)
  | 4, _ => exact (List.perm_middle (l₁ := [x, y]) (l₂ := ([] : List Str)) (a := z)).symm
  | 5, _ => exact (List.reverse_perm [x, y, z])
theorem order_three {x y z : Str} (h1 : x ≠ y) (h2 : x ≠ z) (h3 : y ≠ z) : ∀ n, n < 6 → (permOf [x, y, z] (ordersL.getD n [])).map (fun v => ((([x, y, z] : List Str).idxOf v : Nat) : Int)) = ordersL.getD n [] := by
  have i1 : ([x, y, z] : List Str).idxOf x = 0 := by simp [List.idxOf_cons]
  have e1 : (x == y) = false := beq_eq_false_iff_ne.mpr h1
  have e2 : (x == z) = false := beq_eq_false_iff_ne.mpr h2
  have e3 : (y == z) = false := beq_eq_false_iff_ne.mpr h3
  have i2 : ([x, y, z] : List Str).idxOf y = 1 := by simp [List.idxOf_cons, e1]
  have i3 : ([x, y, z] : List Str).idxOf z = 2 := by simp [List.idxOf_cons, e2, e3]
  have go : ∀ a b c : Int, ∀ u v t : Str, (([x, y, z] : List Str).idxOf u : Int) = a → (([x, y, z] : List Str).idxOf v : Int) = b → (([x, y, z] : List Str).idxOf t : Int) = c → ([u, v, t] : List Str).map (fun v => ((([x, y, z] : List Str).idxOf v : Nat) : Int)) = [a, b, c] := fun a b c u v t e1 e2 e3 => by
    simp only [List.map_cons, List.map_nil, e1, e2, e3]
  intro n hn
  match n, hn with
  | 0, _ => exact go 0 1 2 x y z (by rw [i1]; rfl) (by rw [i2]; rfl) (by rw [i3]; rfl)
  | 1, _ => exact go 0 2 1 x z y (by rw [i1]; rfl) (by rw [i3]; rfl) (by rw [i2]; rfl)
  | 2, _ => exact go 1 0 2 y x z (by rw [i2]; rfl) (by rw [i1]; rfl) (by rw [i3]; rfl)
  | 3, _ => exact go 1 2 0 y z x (by rw [i2]; rfl) (by rw [i3]; rfl) (by rw [i1]; rfl)
  | 4, _ => exact go 2 0 1 z x y (by rw [i3]; rfl) (by rw [i1]; rfl) (by rw [i2]; rfl)
  | 5, _ => exact go 2 1 0 z y x (by rw [i3]; rfl) (by rw [i2]; rfl) (by rw [i1]; rfl)
theorem ord_n : ∀ n, n < 6 → ordN (ordersL.getD n []) = n ∧ ordersL.getD n [] ∈ ordersL := by decide +kernel
theorem told_kept {zs : List Str} {k b : Str} (h5 : zs.length = 5) (nd : zs.Nodup) (hok : ∀ z ∈ zs, okc z = true) (hk : k ∈ zs) (hb : b ∈ zs) (hf : fitF k b = true) :
    ∃ tl, rowZ zs k b = b :: tl ∧ tl.length = 3 ∧ (∀ z ∈ tl, z ∈ zs) ∧ orderS tl ∈ ordersL ∧ toldZ b tl = k ∧ (rowZ zs k b ++ [k]).Perm zs := by
  have ko := hok k hk
  have bo := hok b hb
  obtain ⟨f1, f2⟩ := farZ_pos hf
  have hne : k ≠ b ∧ suN k = suN b := by
    unfold fitF at hf
    simp only [Bool.and_eq_true] at hf
    obtain ⟨⟨a1, a2⟩, _⟩ := hf
    exact ⟨by simpa using a1, (suit_eq ko bo).mp (of_decide_eq_true a2)⟩
  obtain ⟨hne, hsu⟩ := hne
  obtain ⟨n, hn⟩ : ∃ n : Nat, farZ k b = (n : Int) + 1 := ⟨(farZ k b).toNat - 1, by omega⟩
  have hn6 : n < 6 := by omega
  have hn1 : (farZ k b).toNat - 1 = n := by omega
  have hb3 := butS_len nd hk hb hne h5
  have hperm : (restS (butS zs k b)).Perm (butS zs k b) := List.mergeSort_perm _ _
  have hr3 : (restS (butS zs k b)).length = 3 := hperm.length_eq.trans hb3
  have hsub : ∀ z ∈ restS (butS zs k b), z ∈ zs := fun z hz => (List.mem_filter.mp (hperm.mem_iff.mp hz)).1
  have hso : (restS (butS zs k b)).Pairwise fun a b => cardLe a b = true := List.pairwise_mergeSort cardLe_trans cardLe_total _
  have hbn : (butS zs k b).Nodup := nd.sublist List.filter_sublist
  have hrn : (restS (butS zs k b)).Nodup := hperm.nodup_iff.mpr hbn
  have hbp : (k :: b :: butS zs k b).Perm zs := by
    rw [butS_eq nd]
    have e1 := (List.perm_cons_erase ((List.mem_erase_of_ne hne.symm).mpr hb)).symm
    exact (e1.cons k).trans (List.perm_cons_erase hk).symm
  have hrow : rowZ zs k b = b :: permOf (restS (butS zs k b)) (ordersL.getD n []) := by
    unfold rowZ
    rw [hn1]
  rw [hrow]
  obtain ⟨x, y, z, hr⟩ : ∃ x y z, restS (butS zs k b) = [x, y, z] := by
    match restS (butS zs k b), hr3 with
    | [x, y, z], _ => exact ⟨x, y, z, rfl⟩
  rw [hr] at hperm hsub hso hrn ⊢
  have hp3 := perm_three n hn6 x y z
  have hn3 : x ≠ y ∧ x ≠ z ∧ y ≠ z := by
    simp only [List.nodup_cons, List.mem_cons, List.not_mem_nil, or_false, not_or] at hrn
    exact ⟨hrn.1.1, hrn.1.2, hrn.2.1⟩
  have hrest := rest_one (fun v hv => hok v (hsub v hv)) hp3 hso
  have hord : orderS (permOf [x, y, z] (ordersL.getD n [])) = ordersL.getD n [] := by
    unfold orderS
    rw [hrest]
    exact order_three hn3.1 hn3.2.1 hn3.2.2 n hn6
  refine ⟨_, rfl, hp3.length_eq, fun v hv => hsub v (hp3.mem_iff.mp hv), ?_, ?_, ?_⟩
  · rw [hord]
    exact (ord_n n hn6).2
  · unfold toldZ
    rw [hord, (ord_n n hn6).1]
    conv => rhs; rw [card_form ko]
    have b1 := (rk_bound ko).1
    have b2 := (rk_bound bo).1
    have p1 := rkN_pos k
    have p2 := rkN_pos b
    have e : (rkN b - 1 + n + 1) % 13 = rkN k - 1 := by
      unfold farZ at hn
      omega
    rw [e, hsu]
  · have q1 : (b :: permOf [x, y, z] (ordersL.getD n []) ++ [k]).Perm (k :: b :: permOf [x, y, z] (ordersL.getD n [])) := List.perm_append_comm (l₂ := [k])
    refine q1.trans (List.Perm.trans ?_ hbp)
    exact ((hp3.trans hperm).cons b).cons k
end S3
set_option Elab.async false
set_option linter.all false
set_option maxRecDepth 100000
set_option maxHeartbeats 4000000
set_option autoImplicit false
namespace S3
open PySem PySem.Spec PySem.W PyProof.Rows L2 Sh
theorem told_ne2 {W : OW} (k : Str) (rs : List Str) (hk : PyData.strOk k = true) (hr : ∀ z ∈ rs, PyData.strOk z = true) : CmpR W .NotEq (.tup [.str k, .tup (rs.map .str)]) (.tup [.str k, .tup (rs.map .str)]) false := by
  have py : Py W (.tup [.str k, .tup (rs.map .str)]) (.tuple [.str k, .tuple (rs.map .str)]) := by
    refine .tup rfl fun i d p e1 e2 => ?_
    match i, e1, e2 with
    | 0, e1, e2 => cases e1; cases e2; exact .str k
    | 1, e1, e2 => cases e1; cases e2; exact Py.strsT rs
    | i + 2, e1, e2 => simp at e1
  have sh : SeqAt.shaped (.tuple [.str k, .tuple (rs.map .str)]) = true := (enc_str.pair enc_str.tup).shaped (by decide) (a := (k, rs)) ⟨hk, hr⟩
  refine .neD py py sh sh ?_
  have := (enc_str.pair enc_str.tup).eq (k, rs) (k, rs)
  rw [show PyData.eqv (.tuple [.str k, .tuple (rs.map .str)]) (.tuple [.str k, .tuple (rs.map .str)]) = decide ((k, rs) = (k, rs)) from this, decide_eq_true rfl]
  rfl
section
variable {P : Program} {w : World} {K : PySem.W.Frag} {mg : Str → Option Value} {base : Heap} {T : Tb} {TE SE CD CS : Addr}
theorem law_f {k : Nat} {cd : Value} {E : XK} {cl : List (Str × Addr)} {A : AE} (L0 : LawK P w K mg base T k TE SE CD CS) {p L : Addr} {s : Dice} {W0 : OW} {x0 x3 x4 x5 x6 x7 x8 x9 x10 x11 x12 x13 x14 x15 x16 x17 x18 x19 x20 x21 x22 x23 x24 x25 x26 x27 : Option Sh.D}
    (h : ∀ (s' : Dice) (x24 x28 x29 : Option Sh.D), SS (FL P w K mg base T k cd E cl) (lawBody.drop 27) (GL [x0, some (.lst deckD), some (.ptr p), x3, x4, x5, x6, x7, x8, x9, x10, x11, x12, x13, x14, x15, x16, x17, x18, x19, x20, x21, x22, x23, x24, x25, x26, x27, x28, x29]) (W3 L p s' W0) A) :
    SS (FL P w K mg base T k cd E cl) (lawBody.drop 24) (GL [x0, some (.lst deckD), some (.ptr p), x3, x4, x5, x6, x7, x8, x9, x10, x11, x12, x13, x14, x15, x16, x17, x18, x19, x20, x21, x22, x23, x24, x25, x26, x27]) (W3 L p s W0) A := by
  have hm1 : mixM 5 deckS.length = 5 := by rw [deck_len]; decide
  obtain ⟨c1, c2⟩ := mixS_ok s deck_ok (i := 5) (by rw [deck_len]; decide)
  refine ss_cons (s1_set 28 rfl (.inl rfl) (evr_of (mix_ev (xs := deckS) (m := 5) L0.mixed rfl (.inr (.inl rfl)) rfl (by rfl) (by rw [deck_len]; decide) (by decide) (by decide) (ea_cons (ev_var 1 rfl (.inl rfl) rfl) (ea_cons ev_int ea_nil))) ?_))
  rw [hm1]
  generalize (mixS s deckS 5).2.2 = zs at c1 c2 ⊢
  generalize (mixS s deckS 5).1 = s1
  have nd := rowOk_nodup c1
  have hok := rowOk_all c1
  obtain ⟨kk, bb, hit, hk, hb, hf⟩ := hit_ex c2 nd hok
  obtain ⟨tl, e1, e2, e3, e4, e5, e6⟩ := told_kept c2 nd hok hk hb hf
  have ko := hok kk hk
  have bo := hok bb hb
  have hst : ∀ z ∈ zs, PyData.strOk z = true := fun z hz => okc_strOk (hok z hz)
  have hfive := SFive.ok (TE := TE) (.lst (zs.map .str)) zs kk bb .lst c2 nd hok hit
  have hlf := SLFive.ok (.lst (zs.map .str)) zs kk bb .lst c2 nd hok hit
  rw [e1] at hfive hlf e6
  have hro : ∀ z ∈ bb :: tl, z ∈ zs := fun z hz => by
    rcases List.mem_cons.mp hz with rfl | hz
    · exact hb
    · exact e3 z hz
  have hrow : ∀ z ∈ bb :: tl, PyData.strOk z = true := fun z hz => hst z (hro z hz)
  have hbt : (bb :: tl).map Sh.D.str = Sh.D.str bb :: tl.map .str := rfl
  refine ss_cons (s1_asgC (evr_of (ev_pure L0.five (Nat.le_refl _) (by rfl) (ea_cons (ev_var 28 rfl (.inl rfl) rfl) ea_nil) hfive) ⟨_, _, eg_tup (fun X h => h.toG) (egs_cons (eg_name (fun X h => h.toG) 29 rfl (.inl rfl)) (egs_cons (eg_name (fun X h => h.toG) 24 rfl (.inr ⟨rfl, fun X h => h.fn _⟩)) egs_nil)) rfl, ?_⟩) (fun env he => by
    obtain ⟨a1, a2, a3, a4, a5, a6, a7, a8, a9⟩ := env
    cases he
    rfl))
  have hz4 : (bb :: tl).length = 4 := by rw [List.length_cons, e2]
  have hsrt : srtS ((bb :: tl) ++ [kk]) = srtS zs := List.Perm.eq_of_pairwise (le := fun a b => leS a b = true) (fun a b _ _ h1 h2 => leS_anti a b h1 h2) (List.pairwise_mergeSort leS_trans leS_total _) (List.pairwise_mergeSort leS_trans leS_total _) (((srtS_perm _).trans e6).trans (srtS_perm zs).symm)
  have hpair := rkN_pos kk
  refine ss_cons (s1_ifF (et_w (ew_orF (et_cmpR (ev_tup (ea_cons (ev_var 29 rfl (.inl rfl) rfl) (ea_cons (ev_var 24 rfl (.inr (.inl rfl)) rfl) ea_nil)) (Nat.le_of_ble_eq_true rfl)) (ev_pure L0.lfive (Nat.le_refl _) (by rfl) (ea_cons (ev_var 28 rfl (.inl rfl) rfl) ea_nil) hlf) (told_ne2 kk (bb :: tl) (okc_strOk ko) hrow))
    (ew_orF (ET.to (et_cmpR (EV.to (ev_pure L0.toldby (Nat.le_refl _) (by rfl) (ea_cons (ev_var 24 rfl (.inr (.inl rfl)) rfl) ea_nil) (.ok _ bb tl .tup e2 (fun z hz => hok z (hro z hz)) e4)) (congrArg Sh.D.str e5)) (ev_var 29 rfl (.inl rfl) rfl) (.neS _ _)) (by simp))
    (ew_orF (et_cmpR (EN.ev (en_sortTu (zs := (bb :: tl) ++ [kk]) (ms := srtS zs) (by rfl) L0.D.sorted (EV.to (ev_bin (ev_var 24 rfl (.inr (.inl rfl)) rfl) (ev_tup (ea_cons (ev_var 29 rfl (.inl rfl) rfl) ea_nil) (Nat.le_of_ble_eq_true rfl)) (.addT _ _ ?_)) (by rw [List.map_append]; rfl)) (by simp; omega) (fun ys h1 h2 => (srtS_one h1 h2).trans hsrt))) (EN.ev (en_sortS (zs := zs) (ms := srtS zs) (by rfl) L0.D.sorted (ev_var 28 rfl (.inl rfl) rfl) .lst (by omega) (fun ys h1 h2 => srtS_one h1 h2))) (strs_ne _ fun z hz => hst z ((srtS_perm _).mem_iff.mp hz)))
    (ew_or1 (et_cmpR (ev_pure L0.value (Nat.le_refl _) (by rfl) (ea_cons (ev_var 29 rfl (.inl rfl) rfl) ea_nil) (.ok kk ko)) (EV.to (d1 := .tup [.int (rkN kk : Nat), .int (suN kk : Nat)]) (ev_tup (ea_cons (ev_bin (ev_ix (ev_pure L0.lkey (Nat.le_refl _) (by rfl) (ea_cons (ev_var 29 rfl (.inl rfl) rfl) ea_nil) (.mk kk ko)) ev_int (.tup (atI_nat (j := 0) rfl))) ev_int (.addI _ _)) (ea_cons (ev_ix (ev_pure L0.lkey (Nat.le_refl _) (by rfl) (ea_cons (ev_var 29 rfl (.inl rfl) rfl) ea_nil) (.mk kk ko)) ev_int (.tup (atI_nat (j := 1) rfl))) ea_nil)) (Nat.le_of_ble_eq_true rfl)) (by
      congr 2)) (ints_ne [(rkN kk : Nat), (suN kk : Nat)]))))))) (ss_nil (h s1 _ _ _)))
  rw [List.length_map, hz4]
  exact Nat.le_of_ble_eq_true rfl
end
end S3
set_option Elab.async false
set_option linter.all false
set_option maxRecDepth 100000
set_option maxHeartbeats 4000000
set_option autoImplicit false
namespace S3
open PySem PySem.Spec PySem.W PyProof.Rows L2 Sh
theorem turned_eq {ds : List Sh.D} (h : 0 < ds.length) : ∀ n, turned ds n = ds.drop (n % ds.length) ++ ds.take (n % ds.length)
  | 0 => by
    rw [Nat.zero_mod]
    show ds = ds.drop 0 ++ ds.take 0
    simp
  | n + 1 => by
    have hq : n % ds.length < ds.length := Nat.mod_lt _ h
    rw [turned_succ, turned_eq h n]
    generalize hqe : n % ds.length = q at hq ⊢
    have e1 : ds.drop q = ds[q] :: ds.drop (q + 1) := List.drop_eq_getElem_cons hq
    have e2 : ds.take (q + 1) = ds.take q ++ [ds[q]] := by rw [List.take_add_one, List.getElem?_eq_getElem hq]; rfl
    have e3 : (ds.drop q ++ ds.take q).drop 1 ++ (ds.drop q ++ ds.take q).take 1 = ds.drop (q + 1) ++ ds.take (q + 1) := by
      rw [e1, e2, List.cons_append, List.drop_succ_cons, List.drop_zero, List.take_succ_cons, List.take_zero, List.append_assoc]
    rw [e3]
    by_cases hl : q + 1 < ds.length
    · have : (n + 1) % ds.length = q + 1 := by
        rw [Nat.add_mod, hqe, Nat.mod_eq_of_lt (show 1 < ds.length by omega), Nat.mod_eq_of_lt hl]
      rw [this]
    · have hL : q + 1 = ds.length := by omega
      have : (n + 1) % ds.length = 0 := by
        rw [show n + 1 = (q + 1) + ds.length * (n / ds.length) by have := Nat.div_add_mod n ds.length; omega, hL, Nat.add_mul_mod_self_left, Nat.mod_self]
      rw [this, hL]
      simp
def ltr (j : Nat) : Str := cutS "abc de" none (some (j : Int))
theorem ltr_facts : ∀ j, j < 7 → (ltr j).length ≤ 6 ∧ PyData.strOk (ltr j) = true ∧ (lettersOf (ltr j)).length ≤ 6 := by decide +kernel
section
variable {P : Program} {w : World} {K : PySem.W.Frag} {mg : Str → Option Value} {base : Heap} {T : Tb} {TE SE CD CS : Addr}
theorem law_g {k : Nat} {cd : Value} {E : XK} {cl : List (Str × Addr)} {A : AE} (L0 : LawK P w K mg base T k TE SE CD CS) (lt : LTab (FL P w K mg base T (k + 2) cd E cl)) {p L : Addr} {s : Dice} {W0 : OW} {x0 x3 x4 x5 x6 x7 x8 x9 x10 x11 x12 x13 x14 x15 x16 x17 x18 x19 x20 x21 x22 x23 x24 x25 x26 x27 x28 x29 : Option Sh.D}
    (h : ∀ (s' : Dice) (x7 x26 x30 x31 x32 x33 : Option Sh.D), SS (FL P w K mg base T (k + 2) cd E cl) (lawBody.drop 34) (GL [x0, some (.lst deckD), some (.ptr p), x3, x4, x5, x6, x7, x8, x9, x10, x11, x12, x13, x14, x15, x16, x17, x18, x19, x20, x21, x22, x23, x24, x25, x26, x27, x28, x29, x30, x31, x32, x33]) (W3 L p s' W0) A) :
    SS (FL P w K mg base T (k + 2) cd E cl) (lawBody.drop 27) (GL [x0, some (.lst deckD), some (.ptr p), x3, x4, x5, x6, x7, x8, x9, x10, x11, x12, x13, x14, x15, x16, x17, x18, x19, x20, x21, x22, x23, x24, x25, x26, x27, x28, x29]) (W3 L p s W0) A := by
  have L2 := L0.mono (Nat.le_add_right k 2)
  have r7 := (nat12_eq s (n := 7) (by decide)).1
  refine ss_cons (s1_set 30 rfl (.inr rfl) (evr_of (ev_sliceS ev_str eo_none (eo_some (roll_law (n := 7) L2.roll rfl (.inr (.inl rfl)) rfl (by rfl) (by decide) (by decide))) (by decide)) ?_))
  show SS _ _ (List.set _ 30 (some (.str (ltr (nat12 s 7))))) _ _
  obtain ⟨f1, f2, f3⟩ := ltr_facts _ r7
  generalize ltr (nat12 s 7) = z at f1 f2 f3 ⊢
  generalize rollN s 7 = s1
  refine ss_cons (s1_set 31 rfl (.inl rfl) (evr_of (EV.to (d1 := .int ((lettersOf z).length : Nat)) (ev_len (by rfl) L2.D.len (EN.ev (EN.to (en_lcF (own := [("sign", 23)]) (fun x => if !decide (strD x = " ") then some x else none) sc_law.nd (by rfl) (ei_str (ev_var 30 rfl (.inr (.inl rfl)) rfl)) trivial (fun x hx => ?_) ?_) (let_eq z.cps.toList))) (.lst .lst)) (by rw [List.length_map]; rfl)) ?_))
  · obtain ⟨c, hc, rfl⟩ := List.mem_map.mp hx
    exact Sh.turn_if (r := !decide (strD (Sh.D.str ⟨#[c]⟩) = " ")) (eg_name (fun X h => h) 23 rfl (.inl (by rfl))) (by decide) (et_cmpR (ev_var 23 rfl (.inl (by rfl)) rfl) ev_str (.neS _ _)) fun _ => ev_var 23 rfl (.inl (by rfl)) rfl
  · rw [List.length_map, ← len_cps]
    exact Nat.lt_of_le_of_lt f1 (by decide)
  generalize hnl : (lettersOf z).length = nl at f3 ⊢
  have r9 := (nat12_eq s1 (n := 9) (by decide)).1
  refine ss_cons (s1_set 32 rfl (.inr rfl) (evr_of (mix_ev (xs := deckS) (m := (nat12 s1 9 : Nat)) L2.mixed rfl (.inr (.inl rfl)) rfl (by rfl) (by rw [deck_len]; decide) (by omega) (by omega) (ea_cons (ev_var 1 rfl (.inl rfl) rfl) (ea_cons (roll_law (n := 9) L2.roll rfl (.inr (.inl rfl)) rfl (by rfl) (by decide) (by decide)) ea_nil))) ?_))
  have hm1 : mixM (nat12 s1 9 : Nat) deckS.length = nat12 s1 9 := by unfold mixM; rw [deck_len]; omega
  rw [hm1]
  generalize nat12 s1 9 = m at r9 ⊢
  obtain ⟨c1, c2⟩ := mixS_ok (rollN s1 9) deck_ok (i := m) (by rw [deck_len]; omega)
  generalize (mixS (rollN s1 9) deckS m).2.2 = dk at c1 c2 ⊢
  generalize (mixS (rollN s1 9) deckS m).1 = s2
  have hst : ∀ z ∈ dk, PyData.strOk z = true := fun z hz => okc_strOk (rowOk_all c1 z hz)
  refine ss_cons (s1_set 26 rfl (.inl rfl) (evr_of (EV.to (d1 := .bl (decide (0 < nl) && !decide (dk = []))) (ev_and (ev_cmpR (ev_var 31 rfl (.inl rfl) rfl) ev_int (.gtI _ _)) fun _ => ev_one (ev_cmpR (ev_var 32 rfl (.inr (.inl rfl)) rfl) (EN.ev (en_lst (ds := ([] : List Str).map .str) ea_nil (by decide))) (.neD (Py.strsL dk) (Py.strsL []) (shaped_strsL hst) (shaped_strsL (by simp)) (by rw [enc_str.list.eq])))) (congrArg (fun b => Sh.D.bl (b && !decide (dk = []))) (decide_eq_decide.mpr (by omega)))) ?_))
  have hdl : (dk.map Sh.D.str).length = m := by rw [List.length_map, c2]
  obtain ⟨t, htm, ht⟩ : ∃ t : Nat, t ≤ m ∧ (((nl : Nat) : Int) - 1) % (if ((m : Nat) : Int) > 1 then ((m : Nat) : Int) else 1) = (t : Int) ∧ (0 < nl → 0 < m → t = (nl - 1) % m) := by
    by_cases h1 : ((m : Nat) : Int) > 1
    · rw [if_pos h1]
      have a1 := Int.emod_nonneg (((nl : Nat) : Int) - 1) (show ((m : Nat) : Int) ≠ 0 by omega)
      have a2 := Int.emod_lt_of_pos (((nl : Nat) : Int) - 1) (show (0 : Int) < ((m : Nat) : Int) by omega)
      refine ⟨((((nl : Nat) : Int) - 1) % ((m : Nat) : Int)).toNat, by omega, by omega, fun h0 _ => ?_⟩
      rw [show ((nl : Nat) : Int) - 1 = ((nl - 1 : Nat) : Int) by omega, ← Int.natCast_emod, Int.toNat_natCast]
    · rw [if_neg h1]
      refine ⟨0, by omega, by omega, fun _ h0 => ?_⟩
      have : m = 1 := by omega
      rw [this, Nat.mod_one]
  refine ss_cons (s1_set 7 rfl (.inl rfl) (evr_of (EV.to (d1 := .int (t : Nat)) (ev_bin (ev_bin (ev_var 31 rfl (.inl rfl) rfl) ev_int (.subI _ _)) (ev_max2 (by rfl) L2.max (ea_cons ev_int (ea_cons (EV.to (ev_len (by rfl) L2.D.len (ev_var 32 rfl (.inr (.inl rfl)) rfl) (.lst .lst)) (by rw [hdl])) ea_nil))) (.modI _ _ (by split <;> omega))) (congrArg Sh.D.int ht.1)) ?_))
  obtain ⟨ht, htn⟩ := ht
  have hcat : ((dk.map Sh.D.str).drop t ++ (dk.map Sh.D.str).take t) = (dk.drop t ++ dk.take t).map .str := by rw [List.map_append, List.map_drop, List.map_take]
  refine ss_cons (s1_set 33 rfl (.inl rfl) (evr_of (EN.ev (EN.to (en_cat (EN.ev (EN.to (en_slice (ev_var 32 rfl (.inr (.inl rfl)) rfl) (eo_some (ev_var 7 rfl (.inl rfl) rfl)) eo_none .lst) (cutD_from _ t))) (EN.ev (EN.to (en_slice (ev_var 32 rfl (.inr (.inl rfl)) rfl) eo_none (eo_some (ev_var 7 rfl (.inl rfl) rfl)) .lst) (cutD_to _ t))) .lst .lst ?_) hcat)) ?_))
  · rw [List.length_drop, List.length_take]
    exact Nat.le_trans (show _ ≤ 100 by omega) (by decide)
  obtain ⟨o, v, ho, hto, hv1, hv2, hcmp⟩ : ∃ (o : Out) (v : Sh.D), SSpell TE [.lst (dk.map .str), .str z] [] o [] ∧ toldOut K CS "CardError" o v ∧ ((decide (0 < nl) && !decide (dk = [])) = true → ∃ y ys, dk.drop t ++ dk.take t = y :: ys ∧ v = .tup [.str y, .tup (ys.map .str)]) ∧ ((decide (0 < nl) && !decide (dk = [])) = false → v = .str "CardError") ∧ ∀ W : OW, CmpR W .NotEq v v false := by
    cases hg : (decide (0 < nl) && !decide (dk = [])) with
    | true =>
      obtain ⟨g1, g2⟩ := (Bool.and_eq_true _ _).mp hg
      have g1 : 0 < nl := of_decide_eq_true g1
      have g2 : dk ≠ [] := by simpa using g2
      have hm0 : 0 < m := by rw [← c2]; exact List.length_pos_iff.mpr g2
      have htt := htn g1 hm0
      have hrot := turned_eq (ds := dk.map .str) (by rw [hdl]; exact hm0) (nl - 1)
      rw [hdl, ← htt, hcat] at hrot
      obtain ⟨y, ys, hy⟩ : ∃ y ys, dk.drop t ++ dk.take t = y :: ys := by
        cases e : dk.drop t ++ dk.take t with
        | nil =>
          have := congrArg List.length e
          rw [List.length_append, List.length_drop, List.length_take, List.length_nil] at this
          omega
        | cons y ys => exact ⟨y, ys, rfl⟩
      rw [hy] at hrot
      have hym : ∀ x ∈ y :: ys, PyData.strOk x = true := fun x hx => by
        rw [← hy] at hx
        exact hst x ((List.mem_append.mp hx).elim List.mem_of_mem_drop List.mem_of_mem_take)
      refine ⟨_, _, .ok _ (dk.map .str) z (.str y) (ys.map .str) .lst (Row.strs hst) (by omega) (by omega) f2 (fun e => by rw [e] at hnl; simp at hnl; omega) (by rw [hnl]; exact hrot), rfl, fun _ => ⟨y, ys, hy, rfl⟩, fun q => (by cases q), fun W => told_ne2 y ys (hym y List.mem_cons_self) fun x hx => hym x (List.mem_cons_of_mem _ hx)⟩
    | false =>
      have hor : lettersOf z = [] ∨ dk.map Sh.D.str = [] := by
        rcases (Bool.and_eq_false_iff).mp hg with q | q
        · have : nl = 0 := by have := of_decide_eq_false q; omega
          exact .inl (List.eq_nil_of_length_eq_zero (by omega))
        · have : dk = [] := by simpa using q
          exact .inr (by rw [this]; rfl)
      refine ⟨_, _, .er _ (dk.map .str) z .lst (by omega) (by omega) f2 hor, ⟨rfl, L2.exT⟩, fun q => (by cases q), fun _ => rfl, fun W => ?_⟩
      have := CmpR.neS (W := W) "CardError" "CardError"
      rwa [decide_eq_true rfl] at this
  refine ss_cons (s1_ifF (et_cmpR (ev_told L2.told lt ⟨LamX.lamS_by (by rfl), fun _ => rfl, fun _ _ _ _ _ => rfl⟩ (by rfl) (Nat.le_add_left 2 k) (fun cd E => ev_pure L0.spell (Nat.le_refl _) (by rfl) (ea_cons (ev_var 32 rfl (.inr (.inr rfl)) rfl) (ea_cons (ev_var 30 rfl (.inr (.inr rfl)) rfl) ea_nil)) ho) hto) (ev_if (o := .ok v) (et_val (ev_var 26 rfl (.inl rfl) rfl)) (fun hr => ?_) fun hr => EV.to ev_str (hv2 hr).symm) (hcmp _)) (ss_nil (h s2 _ _ _ _ _ _)))
  obtain ⟨y, ys, hy, rfl⟩ := hv1 hr
  exact ev_tup (ea_cons (ev_ix (ev_var 33 rfl (.inl rfl) rfl) ev_int (.lst .lst (atI_nat (j := 0) (by rw [hy]; rfl)))) (ea_cons (ev_tupleSeq (by rfl) L2.D.tuple (EN.ev (EN.to (en_slice (ev_var 33 rfl (.inl rfl) rfl) (eo_some ev_int) eo_none .lst) ((cutD_from _ 1).trans (by rw [hy]; rfl)))) .lst) ea_nil)) (Nat.le_of_ble_eq_true rfl)
end
end S3
set_option Elab.async false
set_option linter.all false
set_option maxRecDepth 100000
set_option maxHeartbeats 4000000
set_option autoImplicit false
namespace S3
open PySem PySem.Spec PySem.W PyProof.Rows L2 Sh
section
variable {P : Program} {w : World} {K : PySem.W.Frag} {mg : Str → Option Value} {base : Heap} {T : Tb} {TE SE CD CS : Addr}
theorem law_h {k : Nat} {cd : Value} {E : XK} {cl : List (Str × Addr)} {A : AE} (L0 : LawK P w K mg base T k TE SE CD CS) {p L : Addr} {s : Dice} {W0 : OW} {x0 x1 x3 x4 x5 x6 x7 x8 x9 x10 x11 x12 x13 x14 x15 x16 x17 x18 x19 x20 x21 x22 x23 x24 x25 x26 x27 x28 x29 x30 x31 x32 x33 : Option Sh.D}
    (h : ∀ (s' : Dice) (x34 x35 : Option Sh.D), A.nx (GL [x0, x1, some (.ptr p), x3, x4, x5, x6, x7, x8, x9, x10, x11, x12, x13, x14, x15, x16, x17, x18, x19, x20, x21, x22, x23, x24, x25, x26, x27, x28, x29, x30, x31, x32, x33, x34, x35]) (W3 L p s' W0)) :
    SS (FL P w K mg base T k cd E cl) (lawBody.drop 34) (GL [x0, x1, some (.ptr p), x3, x4, x5, x6, x7, x8, x9, x10, x11, x12, x13, x14, x15, x16, x17, x18, x19, x20, x21, x22, x23, x24, x25, x26, x27, x28, x29, x30, x31, x32, x33]) (W3 L p s W0) A := by
  have r9 := (nat12_eq s (n := 9) (by decide)).1
  have r2 := (nat12_eq (rollN s 9) (n := 2) (by decide)).1
  obtain ⟨z, hz, hlr⟩ : ∃ z : Str, L2.atI ((["left", "right"] : List Str).map Sh.D.str) ((nat12 (rollN s 9) 2 : Nat) : Int) = some (.str z) ∧ (z = "left" ∨ z = "right") := by
    generalize nat12 (rollN s 9) 2 = j at r2 ⊢
    match j, r2 with
    | 0, _ => exact ⟨"left", rfl, .inl rfl⟩
    | 1, _ => exact ⟨"right", rfl, .inr rfl⟩
  refine ss_cons (s1_par 34 35 rfl rfl (by decide) rfl rfl (ear_of (ea_cons (roll_law (n := 9) L0.roll rfl (.inr (.inl rfl)) rfl (by rfl) (by decide) (by decide)) (ea_cons (ev_ix (EN.ev (en_lst (ds := (["left", "right"] : List Str).map .str) (ea_cons ev_str (ea_cons ev_str ea_nil)) (Nat.le_of_ble_eq_true rfl))) (roll_law (n := 2) L0.roll rfl (.inr (.inl rfl)) rfl (by rfl) (by decide) (by decide)) (.lst .lst hz)) ea_nil)) ⟨_, _, rfl, ?_⟩) (fun env he => by
    obtain ⟨a1, a2, a3, a4, a5, a6, a7, a8, a9⟩ := env
    cases he
    rfl))
  generalize nat12 s 9 = n
  generalize rollN (rollN s 9) 2 = s2
  refine ss_one (s1_ifF (et_cmpR (ev_pure L0.piano (Nat.le_refl _) (by rfl) (ea_cons (ev_var 34 rfl (.inl rfl) rfl) (ea_cons (ev_var 35 rfl (.inl rfl) rfl) ea_nil)) (.ok n z hlr)) (EV.to (d1 := .tup [.int ((n + (if z = "left" then 1 else 0) : Nat) : Int), .int ((n + (if z = "right" then 1 else 0) : Nat) : Int)]) (ev_tup (ea_cons (ev_bin (ev_var 34 rfl (.inl rfl) rfl) (ev_intB (by rfl) L0.int (ev_cmpR (ev_var 35 rfl (.inl rfl) rfl) ev_str (.eqS _ _))) (.addI _ _)) (ea_cons (ev_bin (ev_var 34 rfl (.inl rfl) rfl) (ev_intB (by rfl) L0.int (ev_cmpR (ev_var 35 rfl (.inl rfl) rfl) ev_str (.eqS _ _))) (.addI _ _)) ea_nil)) (Nat.le_of_ble_eq_true rfl)) ?_) (ints_ne [((n + (if z = "left" then 1 else 0) : Nat) : Int), ((n + (if z = "right" then 1 else 0) : Nat) : Int)])) (ss_nil (h s2 _ _)))
  rcases hlr with rfl | rfl
  · rfl
  · rfl
theorem law_body {k : Nat} {cd : Value} {E : XK} {cl : List (Str × Addr)} {A : AE} (L0 : LawK P w K mg base T k TE SE CD CS) (lt : LTab (FL P w K mg base T (k + 2) cd E cl)) {q L p : Addr} {s : Dice} {W0 : OW}
    (h : ∀ (Γ : Ga) (s' : Dice), A.nx Γ (W3 L p s' W0)) :
    SS (FL P w K mg base T (k + 2) cd E cl) lawBody (GL [some (.ptr q), some (.lst deckD), some (.ptr p)]) (W3 L p s W0) A := by
  have L2 := L0.mono (Nat.le_add_right k 2)
  refine law_a L2 fun s1 cs c x5 x6 x7 x8 hok hl => law_b L2 hok hl fun s2 x9 x10 x11 => law_c L2 fun s3 kn pc m st ws k1 k2 p1 p2 hok2 hl2 hm hw hc hwl => law_d L2 k1 k2 p1 p2 hok2 hl2 hm hw hc hwl fun x16 x17 x18 x19 x20 x21 x22 x23 x24 => ?_
  have hle : kn * pc ≤ 24 := Nat.mul_le_mul k2 p2
  have hge : 1 ≤ kn * pc := Nat.mul_le_mul (show 1 ≤ kn by omega) p1
  exact law_e L0 lt hok2 hl2 hle hge fun s4 x24 x25 x26 x27 => law_f L2 fun s5 x24 x28 x29 => law_g L0 lt fun s6 x7 x26 x30 x31 x32 x33 => law_h L2 fun s7 x34 x35 => h _ s7
theorem ok_law {f : Addr} {fd : FuncData} {k : Nat} {c P0 : Addr} (L0 : LawK P w K mg base T k TE SE CD CS) (hp : Fd P w K mg base T "_law_plain" (k + 2) 0 SPlain) (hcd : fd.code = .ref c) (tb : LamX.TabB base mg c P0) (hm : (P0, ("law.<locals>.<lambda>" : Str)) ∈ T.l) (hu : ∀ p ∈ T.l, p.1 = P0 → p.2 = "law.<locals>.<lambda>") (Fu : Fun K "law" "law" st_law f fd) : FnOk P w K mg base (L2.CX P w) (k + 3) f fd ["script"] (spOf K T (SLaw K T)) := by
  refine fn_def Fu sc_law (fun ds W o W' h => by cases h <;> rfl) fun cl E ds W o W' h => ?_
  have L2 := L0.mono (Nat.le_add_right k 2)
  cases h with
  | mk q ns W hS =>
    have lt : LTab (FL P w K mg base T (k + 2) fd.code E cl) := ⟨c, P0, hcd, tb, hm, hu⟩
    refine ss_cons (s1_set 1 rfl (.inl rfl) (evr_of (ev_pure0 L2.deck (Nat.le_refl _) (by rfl) .ok) ?_))
    refine ss_cons (s1_forR (Pp := fun ds Wk W1 => ∃ L p s, ds = [.ptr p] ∧ Wk = (fun W' => AsL W' (.ptr L) [.ptr p]) ∧ W1 = W3 L p s W) (eir_list (evr_callR (Wf := W) (Wr := []) (F := FL P w K mg base T (k + 2) fd.code E cl) L2.rounds (Nat.le_refl _) (by rfl) (ea_cons (ev_var 0 rfl (.inl rfl) rfl) (ea_cons ev_int ea_nil)) (by rw [List.append_nil]) (.mk q ns W hS) fun d Wf' hd => ?_)) fun ds Wk W1 hP => ?_)
    · obtain ⟨L, p, s, rfl, rfl⟩ := hd
      rw [List.append_nil]
      exact ⟨[.ptr p], .own 0 rfl, L, p, s, rfl, rfl, rfl⟩
    · obtain ⟨L, p, s, rfl, rfl, rfl⟩ := hP
      refine ⟨fun i Γ' W' => (i = 0 ∧ Γ' = GL [some (.ptr q), some (.lst deckD)] ∧ W' = W3 L p s W) ∨ (i = 1 ∧ ∃ s', W' = W3 L p s' W), .inl ⟨rfl, rfl, rfl⟩, fun i Γ' W' hI => ?_, fun i d Γ' W' hd hI => ?_, fun Γ' W' hI => ?_⟩
      · rcases hI with ⟨_, _, rfl⟩ | ⟨_, s', rfl⟩
        · exact .own 0 rfl
        · exact .own 0 rfl
      · rcases hI with ⟨rfl, rfl, rfl⟩ | ⟨rfl, _⟩
        · cases hd
          exact ⟨_, _, eg_name (fun X h => h.toG) 2 rfl (.inr ⟨rfl, fun X h => h.fn _⟩), law_body L0 lt fun Γ s' => .inr ⟨rfl, s', rfl⟩⟩
        · cases hd
      · rcases hI with ⟨h, _⟩ | ⟨_, s', rfl⟩
        · cases h
        · exact ss_one (s1_ret (evr_of (ev_pure0 hp (Nat.le_refl _) (by rfl) .ok) ⟨rfl, .nil _⟩))
end
end S3
set_option Elab.async false
set_option linter.all false
set_option maxRecDepth 100000
set_option maxHeartbeats 4000000
set_option autoImplicit false
namespace S3
open PySem PySem.Spec PySem.W PyProof.Rows L2 Sh
abbrev st_plain : Stmt := topS 37
abbrev NP : List Str := ["bad", "deck", "f"]
theorem sc_plain : FnScope NP [] (defScope st_plain) := ⟨rfl, rfl, rfl, by decide +kernel, rfl, by decide +kernel, by decide +kernel⟩
def AllB (p : Expr → Prop) : List Expr → Prop
  | [] => True
  | e :: es => p e ∧ AllB p es
theorem allB_mem {p : Expr → Prop} : ∀ {es : List Expr}, AllB p es → ∀ e ∈ es, p e
  | [], _, e, he => by cases he
  | x :: es, h, e, he => by
    rcases List.mem_cons.mp he with rfl | he
    · exact h.1
    · exact allB_mem h.2 e he
theorem lamBs_of {sc : Scope} : ∀ {es : List Expr}, (∀ e ∈ es, ∃ pa bd sc' lp, e = .Lambda pa bd sc' lp ∧ LamB sc sc' pa bd) → LamBs sc es
  | [], _ => trivial
  | e :: es, h => by
    refine ⟨?_, ?_, lamBs_of fun x hx => h x (List.mem_cons_of_mem _ hx)⟩
    · obtain ⟨pa, bd, sc', lp, e1, lb⟩ := h e List.mem_cons_self
      exact ⟨pa, bd, sc', lp, e1, lb⟩
    · obtain ⟨pa, bd, sc', lp, rfl, lb⟩ := h e List.mem_cons_self
      intro env
      rfl
def badStmt : Stmt := (defBody st_plain).getD 1 (.Pass ⟨0, 0, 0, 0⟩)
def listOf : Stmt → List Expr
  | .Assign _ (.List es _) _ => es
  | _ => []
def badEs : List Expr := listOf badStmt
structure PlainK (P : Program) (w : World) (K : PySem.W.Frag) (mg : Str → Option Value) (base : Heap) (T : Tb) (k : Nat) (TE SE CD CS : Addr) : Prop where
  L : LawK P w K mg base T k TE SE CD CS
  O : Ords K mg
  full : Fd P w K mg base T "full_deck" k 0 SDeck
theorem PlainK.up {P : Program} {w : World} {K : PySem.W.Frag} {mg : Str → Option Value} {base : Heap} {T : Tb} {TE SE CD CS : Addr} {k j : Nat} (L : PlainK P w K mg base T k TE SE CD CS) (h : k ≤ j) : PlainK P w K mg base T j TE SE CD CS := ⟨L.L.mono h, L.O, L.full.up h⟩
abbrev FP (P : Program) (w : World) (K : PySem.W.Frag) (mg : Str → Option Value) (base : Heap) (T : Tb) (k : Nat) (cd : Value) (E : XK) (cl : List (Str × Addr)) : CF := ⟨P, w, K, mg, base, NP, defScope st_plain, k, cd, E, T, "_law_plain" ++ ".<locals>.", some cl⟩
def dkS (n : Nat) : List Str := deckS.take n
theorem dk_cut (n : Nat) : cutD deckD none (some (n : Int)) = (dkS n).map .str := by
  rw [cutD_to]
  unfold dkS deckD
  rw [List.map_take]
theorem dk_strOk (n : Nat) : ∀ z ∈ dkS n, PyData.strOk z = true := fun z hz => deck_strOk z (List.mem_of_mem_take hz)
theorem dk_okc (n : Nat) : ∀ z ∈ dkS n, okc z = true := fun z hz => deck_okc z (List.mem_of_mem_take hz)
theorem dk_len {n : Nat} (h : n ≤ 52) : (dkS n).length = n := by
  unfold dkS
  rw [List.length_take, deck_len]
  omega
theorem aba : ¬ pairOk ((dkS 3).map Sh.D.str).length (["a", "b", "a"] : List Str) := fun q => by
  have := q.2.2
  rw [names_len] at this
  exact absurd this (by decide +kernel)
theorem two_twice : orderS (["2C", "2C", "3C"] : List Str) = [0, 0, 2] := by
  unfold orderS
  rw [rest_one (r := (["2C", "2C", "3C"] : List Str)) (by decide +kernel) (.refl _) (by decide +kernel)]
  decide +kernel
section
variable {P : Program} {w : World} {K : PySem.W.Frag} {mg : Str → Option Value} {base : Heap} {T : Tb} {TE SE CD CS : Addr}
theorem ev_dk {F : CF} {Γ : Ga} {W : OW} {p1 p2 p3 p4 : Pos} {j : Nat} (n : Nat) (hN : F.N[1]? = some ("deck" : Str)) (hv : VisS F.sc "deck") (hΓ : Γ[1]? = some (some (.tup deckD))) : EV F (.Subscript (.Name "deck" p1) (.Slice none (some (.Constant (.int (n : Nat)) j p2)) none p3) p4) Γ W (.ok (.tup ((dkS n).map .str))) W :=
  EV.to (ev_sliceT (ev_var 1 hN hv hΓ) eo_none (eo_some ev_int)) (congrArg Sh.D.tup (dk_cut n))
theorem bad_all {k : Nat} {cd : Value} {E : XK} {cl : List (Str × Addr)} (L0 : LawK P w K mg base T k TE SE CD CS) {Γ : Ga} {W : OW} (hΓ : Γ[1]? = some (some (.tup deckD))) : AllB (BadL (FP P w K mg base T (k + 2) cd E cl) CS Γ W) badEs := by
  have hex := L0.exT
  have d21 := dk_len (n := 21) (by decide)
  have dka : deckD = deckS.map .str := rfl
  refine And.intro ⟨_, _, _, _, rfl, ⟨LamX.lamS_by (by rfl), fun _ => rfl, fun _ _ _ _ _ => rfl⟩, TE, hex, fun cd E => ev_pure L0.three (Nat.le_refl _) (by rfl) (ea_cons (ev_var 1 rfl (.inr (.inr rfl)) hΓ) (ea_cons (EN.ev (en_lst (ds := (natsOf []).map .int) ea_nil (by decide))) ea_nil)) (.er _ _ deckD [] .tup .lst (by decide) (by decide) (by decide))⟩ ?_
  refine And.intro ⟨_, _, _, _, rfl, ⟨LamX.lamS_by (by rfl), fun _ => rfl, fun _ _ _ _ _ => rfl⟩, TE, hex, fun cd E => ev_pure L0.three (Nat.le_refl _) (by rfl) (ea_cons (ev_dk 21 rfl (.inr (.inr rfl)) hΓ) (ea_cons (EN.ev (en_lst (ds := (natsOf [3]).map .int) (ea_cons ev_int ea_nil) (by decide))) ea_nil)) (.er _ _ _ [3] .tup .lst (by rw [List.length_map, d21]; decide) (by decide) (fun q => absurd (q.2 3 (by decide)) (by decide)))⟩ ?_
  refine And.intro ⟨_, _, _, _, rfl, ⟨LamX.lamS_by (by rfl), fun _ => rfl, fun _ _ _ _ _ => rfl⟩, TE, hex, fun cd E => ev_pure L0.ans (Nat.le_refl _) (by rfl) (ea_cons (ev_dk 21 rfl (.inr (.inr rfl)) hΓ) (ea_cons ev_str (ea_cons ev_int ea_nil))) (.er _ (dkS 21) "KS" 1 .tup (dk_strOk 21) (by decide +kernel) (by rw [d21]; decide) (by decide +kernel))⟩ ?_
  refine And.intro ⟨_, _, _, _, rfl, ⟨LamX.lamS_by (by rfl), fun _ => rfl, fun _ _ _ _ _ => rfl⟩, TE, hex, fun cd E => ev_pure L0.ans (Nat.le_refl _) (by rfl) (ea_cons (ev_var 1 rfl (.inr (.inr rfl)) hΓ) (ea_cons ev_str (ea_cons ev_int ea_nil))) (.er _ deckS "AC" 1 .tup deck_strOk (by decide +kernel) (by decide) (by decide))⟩ ?_
  refine And.intro ⟨_, _, _, _, rfl, ⟨LamX.lamS_by (by rfl), fun _ => rfl, fun _ _ _ _ _ => rfl⟩, TE, hex, fun cd E => ev_pure L0.pair (Nat.le_refl _) (by rfl) (ea_cons (EN.ev (en_lst ea_nil (by decide))) (ea_cons (EN.ev (en_lst (ds := ([] : List Str).map .str) ea_nil (by decide))) ea_nil)) (.er _ [] [] .lst (by simp) (by decide) (by decide) (by decide +kernel))⟩ ?_
  refine And.intro ⟨_, _, _, _, rfl, ⟨LamX.lamS_by (by rfl), fun _ => rfl, fun _ _ _ _ _ => rfl⟩, TE, hex, fun cd E => ev_pure L0.pair (Nat.le_refl _) (by rfl) (ea_cons (ev_dk 3 rfl (.inr (.inr rfl)) hΓ) (ea_cons (EN.ev (en_lst (ds := (["a", "b", "a"] : List Str).map .str) (ea_cons ev_str (ea_cons ev_str (ea_cons ev_str ea_nil))) (by decide))) ea_nil)) (.er _ ((dkS 3).map .str) ["a", "b", "a"] .tup (by decide +kernel) (by decide) (by decide) aba)⟩ ?_
  refine And.intro ⟨_, _, _, _, rfl, ⟨LamX.lamS_by (by rfl), fun _ => rfl, fun _ _ _ _ _ => rfl⟩, TE, hex, fun cd E => ev_pure L0.pair (Nat.le_refl _) (by rfl) (ea_cons (ev_dk 2 rfl (.inr (.inr rfl)) hΓ) (ea_cons (EN.ev (en_lst (ds := (["a"] : List Str).map .str) (ea_cons ev_str ea_nil) (by decide))) ea_nil)) (.er _ ((dkS 2).map .str) ["a"] .tup (by decide +kernel) (by decide) (by decide) (by decide +kernel))⟩ ?_
  refine And.intro ⟨_, _, _, _, rfl, ⟨LamX.lamS_by (by rfl), fun _ => rfl, fun _ _ _ _ _ => rfl⟩, TE, hex, fun cd E => ev_pure L0.magic (Nat.le_refl _) (by rfl) (ea_cons (ev_dk 2 rfl (.inr (.inr rfl)) hΓ) (ea_cons ev_int (ea_cons ev_str ea_nil))) (.er _ ((dkS 2).map .str) 3 "ll" .tup (by decide) (by decide) (by decide +kernel))⟩ ?_
  refine And.intro ⟨_, _, _, _, rfl, ⟨LamX.lamS_by (by rfl), fun _ => rfl, fun _ _ _ _ _ => rfl⟩, TE, hex, fun cd E => ev_pure L0.magic (Nat.le_refl _) (by rfl) (ea_cons (ev_dk 2 rfl (.inr (.inr rfl)) hΓ) (ea_cons ev_int (ea_cons ev_str ea_nil))) (.er _ ((dkS 2).map .str) 1 "ll" .tup (by decide) (by decide) (by decide +kernel))⟩ ?_
  refine And.intro ⟨_, _, _, _, rfl, ⟨LamX.lamS_by (by rfl), fun _ => rfl, fun _ _ _ _ _ => rfl⟩, SE, L0.exS, fun cd E => ev_pure L0.magic (Nat.le_refl _) (by rfl) (ea_cons (ev_dk 2 rfl (.inr (.inr rfl)) hΓ) (ea_cons ev_int (ea_cons ev_str ea_nil))) (.erS _ ((dkS 2).map .str) 1 "lx" .tup (by decide) (by decide) (by decide) (by decide +kernel) (by decide +kernel))⟩ ?_
  refine And.intro ⟨_, _, _, _, rfl, ⟨LamX.lamS_by (by rfl), fun _ => rfl, fun _ _ _ _ _ => rfl⟩, TE, hex, fun cd E => ev_pure L0.magic (Nat.le_refl _) (by rfl) (ea_cons (ev_dk 2 rfl (.inr (.inr rfl)) hΓ) (ea_cons (ev_neg ev_int) (ea_cons ev_str ea_nil))) (.er _ ((dkS 2).map .str) _ "rr" .tup (by decide) (by decide) (by decide +kernel))⟩ ?_
  refine And.intro ⟨_, _, _, _, rfl, ⟨LamX.lamS_by (by rfl), fun _ => rfl, fun _ _ _ _ _ => rfl⟩, CD, L0.exD, fun cd E => ev_pure L0.col (Nat.le_refl _) (by rfl) (ea_cons (EN.ev (en_lst (ds := (["x"] : List Str).map .str) (ea_cons ev_str ea_nil) (by decide))) ea_nil) (.er _ "x" [] .lst (by decide) (by decide +kernel))⟩ ?_
  refine And.intro ⟨_, _, _, _, rfl, ⟨LamX.lamS_by (by rfl), fun _ => rfl, fun _ _ _ _ _ => rfl⟩, TE, hex, fun cd E => ev_pure L0.piano (Nat.le_refl _) (by rfl) (ea_cons (ev_neg ev_int) (ea_cons ev_str ea_nil)) (.er _ "left" (by decide +kernel) (by decide))⟩ ?_
  refine And.intro ⟨_, _, _, _, rfl, ⟨LamX.lamS_by (by rfl), fun _ => rfl, fun _ _ _ _ _ => rfl⟩, TE, hex, fun cd E => ev_pure L0.piano (Nat.le_refl _) (by rfl) (ea_cons ev_int (ea_cons ev_str ea_nil)) (.er 1 "up" (by decide +kernel) (by decide +kernel))⟩ ?_
  refine And.intro ⟨_, _, _, _, rfl, ⟨LamX.lamS_by (by rfl), fun _ => rfl, fun _ _ _ _ _ => rfl⟩, TE, hex, fun cd E => ev_pure L0.spell (Nat.le_refl _) (by rfl) (ea_cons (EN.ev (en_lst ea_nil (by decide))) (ea_cons ev_str ea_nil)) (.er _ [] "a" .lst (by decide) (by decide) (by decide +kernel) (.inr rfl))⟩ ?_
  refine And.intro ⟨_, _, _, _, rfl, ⟨LamX.lamS_by (by rfl), fun _ => rfl, fun _ _ _ _ _ => rfl⟩, TE, hex, fun cd E => ev_pure L0.spell (Nat.le_refl _) (by rfl) (ea_cons (ev_var 1 rfl (.inr (.inr rfl)) hΓ) (ea_cons ev_str ea_nil)) (.er _ deckD " " .tup (by decide) (by decide) (by decide +kernel) (.inl (by decide +kernel)))⟩ ?_
  refine And.intro ⟨_, _, _, _, rfl, ⟨LamX.lamS_by (by rfl), fun _ => rfl, fun _ _ _ _ _ => rfl⟩, TE, hex, fun cd E => ev_pure L0.five (Nat.le_refl _) (by rfl) (ea_cons (ev_dk 4 rfl (.inr (.inr rfl)) hΓ) ea_nil) (.er _ (dkS 4) .tup (by decide) (dk_okc 4) (by decide))⟩ ?_
  refine And.intro ⟨_, _, _, _, rfl, ⟨LamX.lamS_by (by rfl), fun _ => rfl, fun _ _ _ _ _ => rfl⟩, TE, hex, fun cd E => ev_pure L0.five (Nat.le_refl _) (by rfl) (ea_cons (EN.ev (EN.to (en_rep (xs := (["x"] : List Str).map .str) (i := 5) (EN.ev (en_lst (ea_cons ev_str ea_nil) (by decide))) ev_int .lst (by decide)) (show _ = (["x", "x", "x", "x", "x"] : List Str).map Sh.D.str from rfl))) ea_nil) (.bad _ "x" ["x", "x", "x", "x"] .lst (by decide) (by decide +kernel))⟩ ?_
  refine And.intro ⟨_, _, _, _, rfl, ⟨LamX.lamS_by (by rfl), fun _ => rfl, fun _ _ _ _ _ => rfl⟩, TE, hex, fun cd E => ev_pure L0.value (Nat.le_refl _) (by rfl) (ea_cons ev_str ea_nil) (.er "10C" (by decide) (by decide +kernel))⟩ ?_
  refine And.intro ⟨_, _, _, _, rfl, ⟨LamX.lamS_by (by rfl), fun _ => rfl, fun _ _ _ _ _ => rfl⟩, TE, hex, fun cd E => ev_pure L0.value (Nat.le_refl _) (by rfl) (ea_cons ev_str ea_nil) (.er "" (by decide) (by decide +kernel))⟩ ?_
  refine And.intro ⟨_, _, _, _, rfl, ⟨LamX.lamS_by (by rfl), fun _ => rfl, fun _ _ _ _ _ => rfl⟩, TE, hex, fun cd E => ev_pure L0.toldby (Nat.le_refl _) (by rfl) (ea_cons (ev_dk 3 rfl (.inr (.inr rfl)) hΓ) ea_nil) (.few _ ((dkS 3).map .str) .tup (by decide) (by decide))⟩ ?_
  refine And.intro ⟨_, _, _, _, rfl, ⟨LamX.lamS_by (by rfl), fun _ => rfl, fun _ _ _ _ _ => rfl⟩, TE, hex, fun cd E => ev_pure L0.toldby (Nat.le_refl _) (by rfl) (ea_cons (EN.ev (en_lst (ds := (["AC", "2C", "2C", "3C"] : List Str).map .str) (ea_cons ev_str (ea_cons ev_str (ea_cons ev_str (ea_cons ev_str ea_nil)))) (by decide))) ea_nil) (.er _ "AC" ["2C", "2C", "3C"] .lst (by decide) (by decide +kernel) (by rw [two_twice]; decide))⟩ ?_
  refine And.intro ⟨_, _, _, _, rfl, ⟨LamX.lamS_by (by rfl), fun _ => rfl, fun _ _ _ _ _ => rfl⟩, TE, hex, fun cd E => ev_pure L0.toldby (Nat.le_refl _) (by rfl) (ea_cons (EN.ev (EN.to (en_rep (xs := (["x"] : List Str).map .str) (i := 4) (EN.ev (en_lst (ea_cons ev_str ea_nil) (by decide))) ev_int .lst (by decide)) (show _ = (["x", "x", "x", "x"] : List Str).map Sh.D.str from rfl))) ea_nil) (.bad _ "x" "x" ["x", "x"] .lst (by decide) (by decide) (by decide +kernel))⟩ ?_
  exact trivial
end
end S3
set_option Elab.async false
set_option linter.all false
set_option maxRecDepth 100000
set_option maxHeartbeats 4000000
set_option autoImplicit false
namespace S3
open PySem PySem.Spec PySem.W PyProof.Rows L2 Sh
theorem told_one : orderS (["2C", "3C", "4C"] : List Str) = [0, 1, 2] := by
  unfold orderS
  rw [rest_one (r := (["2C", "3C", "4C"] : List Str)) (by decide +kernel) (.refl _) (by decide +kernel)]
  decide +kernel
theorem told_two : orderS (["4C", "3C", "2C"] : List Str) = [2, 1, 0] := by
  unfold orderS
  rw [rest_one (tl := (["4C", "3C", "2C"] : List Str)) (r := (["2C", "3C", "4C"] : List Str)) (by decide +kernel) (List.reverse_perm (["2C", "3C", "4C"] : List Str)) (by decide +kernel)]
  decide +kernel
theorem toldZ_one : toldZ "QH" ["2C", "3C", "4C"] = "KH" := by
  unfold toldZ
  rw [told_one]
  decide +kernel
theorem toldZ_two : toldZ "QH" ["4C", "3C", "2C"] = "5H" := by
  unfold toldZ
  rw [told_two]
  decide +kernel
theorem py_ord {W : OW} : Py W (.tup [.int 6, .tup (([0, 2, 1] : List Int).map .int)]) (.tuple [.int 6, .tuple (([0, 2, 1] : List Int).map .int)]) := by
  refine .tup rfl fun i d p e1 e2 => ?_
  match i, e1, e2 with
  | 0, e1, e2 => cases e1; cases e2; exact .int 6
  | 1, e1, e2 => cases e1; cases e2; exact Py.intsT [0, 2, 1]
  | i + 2, e1, e2 => simp at e1
section
variable {P : Program} {w : World} {K : PySem.W.Frag} {mg : Str → Option Value} {base : Heap} {T : Tb} {TE SE CD CS : Addr}
theorem ok_plain {f : Addr} {fd : FuncData} {k : Nat} {c P0 : Addr} (P2 : PlainK P w K mg base T k TE SE CD CS) (hcd : fd.code = .ref c) (tb : LamX.TabB base mg c P0) (hm : (P0, ("_law_plain.<locals>.<lambda>" : Str)) ∈ T.l) (hu : ∀ p ∈ T.l, p.1 = P0 → p.2 = "_law_plain.<locals>.<lambda>") (Fu : Fun K "_law_plain" "_law_plain" st_plain f fd) : FnOk P w K mg base (L2.CX P w) (k + 3) f fd [] (spOf K T SPlain) := by
  refine fn_def Fu sc_plain (fun ds W o W' h => by cases h <;> rfl) fun cl E ds W o W' h => ?_
  have Q := P2.up (Nat.le_add_right k 2)
  have L2 := Q.L
  obtain ⟨oa, og, orp⟩ := P2.O.ex
  cases h with
  | ok =>
    have lt : LTab (FP P w K mg base T (k + 2) fd.code E cl) := ⟨c, P0, hcd, tb, hm, hu⟩
    have hB := fun {Γ : Ga} {W : OW} (hΓ : Γ[1]? = some (some (.tup deckD))) => bad_all (cd := fd.code) (E := E) (cl := cl) P2.L (W := W) hΓ
    have hBs : LamBs (defScope st_plain) badEs := lamBs_of fun e he => by
      obtain ⟨pa, bd, sc, lp, e1, lb, _⟩ := (allB_mem (hB (Γ := [none, some (.tup deckD)]) (W := []) rfl) e he).ex
      exact ⟨pa, bd, sc, lp, e1, lb⟩
    have hbl : badEs.length = 23 := rfl
    refine ss_cons (s1_set 1 rfl (.inr rfl) (evr_of (ev_pure0 Q.full (Nat.le_refl _) (by rfl) .ok) ?_))
    refine ss_cons (s1_set 0 rfl (.inl rfl) (evr_lst (ear_lams (cl := cl) rfl lt badEs [] _ hBs fun ds W' hW => ⟨by rw [hW.get.1, hbl]; decide, fun b => ?_⟩)))
    have hds := hW.get
    have d21 := dk_len (n := 21) (by decide)
    refine ss_one (s1_ret (evr_of (EV.to (ev_andT (EV.to (ev_cmpR (EN.ev (en_bad (ib := 0) (j := 2) (jb := 0) (cl := cl) L2.told (Nat.le_add_left 2 k) rfl sc_plain.nd (by rfl) rfl (.inl rfl) rfl rfl (by rw [hds.1, hbl]; decide) (fun i d hd => ?_) (by rfl) rfl (by rfl))) (EN.ev (en_lst ea_nil (by decide))) (.eqD (Py.strsL []) (Py.strsL []) (shaped_strsL (by simp)) (shaped_strsL (by simp)) rfl)) (by rw [enc_str.list.eq]; rfl))
      (ev_andT (EV.to (ev_cmpR (EV.to (d1 := .tup [.int 6, .tup (([0, 2, 1] : List Int).map .int)]) (ev_tup (ea_cons (ev_len (by rfl) L2.D.len (ev_glob (v := .ref oa) (by rfl) og rfl orp) (.tup _)) (ea_cons (ev_ix (ev_glob (v := .ref oa) (by rfl) og rfl orp) ev_int (.tup (atI_nat (j := 1) rfl))) ea_nil)) (Nat.le_of_ble_eq_true rfl)) (by rfl)) (EV.to (ev_tup (ea_cons ev_int (ea_cons (ev_tup (ea_cons ev_int (ea_cons ev_int (ea_cons ev_int ea_nil))) (Nat.le_of_ble_eq_true rfl)) ea_nil)) (Nat.le_of_ble_eq_true rfl)) (by rfl)) (.eqD py_ord py_ord (by decide +kernel) (by decide +kernel) rfl)) (congrArg Sh.D.bl (by decide +kernel)))
      (ev_andT (EV.to (ev_cmpR (EV.to (ev_pure L2.toldby (Nat.le_refl _) (by rfl) (ea_cons (EN.ev (en_lst (ds := (["QH", "2C", "3C", "4C"] : List Str).map .str) (ea_cons ev_str (ea_cons ev_str (ea_cons ev_str (ea_cons ev_str ea_nil)))) (Nat.le_of_ble_eq_true rfl))) ea_nil) (.ok _ "QH" ["2C", "3C", "4C"] .lst (by decide) (by decide +kernel) (by rw [told_one]; decide))) (congrArg Sh.D.str toldZ_one)) ev_str (.eqS _ _)) (congrArg Sh.D.bl (by decide +kernel)))
      (ev_andT (EV.to (ev_cmpR (EV.to (ev_pure L2.toldby (Nat.le_refl _) (by rfl) (ea_cons (EN.ev (en_lst (ds := (["QH", "4C", "3C", "2C"] : List Str).map .str) (ea_cons ev_str (ea_cons ev_str (ea_cons ev_str (ea_cons ev_str ea_nil)))) (Nat.le_of_ble_eq_true rfl))) ea_nil) (.ok _ "QH" ["4C", "3C", "2C"] .lst (by decide) (by decide +kernel) (by rw [told_two]; decide))) (congrArg Sh.D.str toldZ_two)) ev_str (.eqS _ _)) (congrArg Sh.D.bl (by decide +kernel)))
      (ev_one (ev_cmpR (ev_pure L2.ans (Nat.le_refl _) (by rfl) (ea_cons (ev_dk 21 rfl (.inr (.inl rfl)) rfl) (ea_cons ev_str (ea_cons ev_int ea_nil))) (.ok _ (dkS 21) "AC" 0 .tup (dk_strOk 21) (by decide +kernel) d21 (by decide +kernel) (by decide))) (ev_tup ea_nil (by decide)) (.eqD (Py.intsT []) (Py.intsT []) (shaped_intsT []) (shaped_intsT []) rfl))))))) (congrArg Sh.D.bl (by decide +kernel))) ⟨rfl, .nil _⟩))
    obtain ⟨f, e, w, e1, h1, h2, h3⟩ := hds.2 i d hd
    exact ⟨f, e, w, e1, List.mem_cons_of_mem _ h1, h2, allB_mem (hB rfl) e h3⟩
end
end S3
set_option Elab.async false
set_option linter.all false
set_option maxRecDepth 100000
set_option maxHeartbeats 0
set_option autoImplicit false
namespace S3
open PySem PySem.Spec PySem.W PyProof.Rows L2 Sh
abbrev st_told : Stmt := topS 31
def dDs : List (Str × Stmt) := ([("check_card", st_check_card), ("full_deck", st_full_deck), ("is_red", st_is_red), ("dealt", st_dealt), ("gathered", st_gathered), ("riffled", st_riff), ("three_heaps", st_three), ("answers_for", st_ans), ("is_paired", st_paired), ("magic_riffle", st_magic), ("colours_of", st_colours), ("piano", st_piano), ("spelled", st_spelled), ("value_of", st_value), ("five_told", st_five)] : List (Str × Stmt)) ++ ([("told_by", st_toldby), ("_law_dice", st_dice), ("_law_roll", st_roll), ("_law_rounds", st_rounds), ("_law_told", st_told), ("_law_deck", st_ldeck), ("_law_mixed", st_mixed), ("_law_heaps", st_lheaps), ("_law_key", st_lkey), ("_law_five", st_lfive), ("_law_plain", st_plain), ("law", st_law)] : List (Str × Stmt))
def dFns : List He.DefD := dDs.map fun p => dfn p.1 p.2
def dFree : List Str := ["len", "tuple", "list", "range", "int", "abs", "min", "zip", "enumerate", "sum", "any", "str", "all", "sorted", "max", "dict"]
def dFa : List He.Fa := dDs.map (fun p => .glo p.1) ++ (dFree.map .free ++ [.str "RANKS" "A23456789TJQK", .str "SUITS" "CDHS", .glo "DeckError", .exc "DeckError", .glo "ShuffleError", .exc "ShuffleError", .glo "TrickError", .exc "TrickError", .glo "CardError", .exm "TrickError" "CardError" true, .exm "ShuffleError" "CardError" true, .exm "DeckError" "CardError" true, .glo "ORDERS"])
def dTf : List He.Defn := [("dealt", none), ("riffled", none), ("three_heaps", none), ("is_paired", none), ("colours_of", none), ("five_told", none), ("told_by", none), ("law", none), ("_law_plain", none)]
def tbs (K : PySem.W.Frag) : List Addr := dTf.map fun p => (He.cT K p).2
def dEx (K : PySem.W.Frag) : Bool := decide (tbs K).Nodup && (decide (PySem.W.subIn K (.ref (He.ga K "DeckError")) (.type "StopIteration") = some false) && twoN K "ORDERS" ordersL)
def dNames : List Str := (["CardError", "DeckError", "ShuffleError", "TrickError", "RANKS", "SUITS", "ORDERS", "check_card", "full_deck", "is_red", "dealt", "gathered", "riffled", "three_heaps", "answers_for", "is_paired", "magic_riffle", "colours_of"] : List Str) ++ (["piano", "spelled", "value_of", "five_told", "told_by", "_law_dice", "_law_roll", "_law_rounds", "_law_told", "_law_deck", "_law_mixed", "_law_heaps", "_law_key", "_law_five", "_law_plain"] : List Str)
abbrev R : PySem.W.OpenRow := PySem.W.OpenLaw.row PySem.Challenge.rw_shufflestack_k03_tricks_that_find_a_card
abbrev hk : PySem.W.Hook := He.hookX 5 dFa dFns [] dTf dEx
def ob (s : PySem.W.SharedT) : He.AlX := He.obsX 5 dFa dFns [] dTf dEx (HandSHeadRun.getT s)
theorem ob_eq (s : PySem.W.SharedT) : ob s = hk.obs s.abs := He.obsX_eq (HandSHeadRun.getT_eq s)
theorem run (w : World) : HandSHeadRun.RunEq R (PySem.W.view R.prog [38]) hk ob 2000 dNames w := by
  intro os
  kernel_rfl
end S3
set_option Elab.async false
set_option linter.all false
set_option maxRecDepth 100000
set_option maxHeartbeats 4000000
set_option autoImplicit false
namespace S3
open PySem PySem.Spec PySem.W PyProof.Rows L2 Sh
def tP (K : PySem.W.Frag) (x : Str) : Addr := (He.cT K (x, none)).2
def tbOf (K : PySem.W.Frag) : Tb := ⟨[tP K "dealt", tP K "riffled", tP K "three_heaps", tP K "is_paired", tP K "colours_of", tP K "five_told", tP K "told_by"], [(tP K "law", "law.<locals>.<lambda>"), (tP K "_law_plain", "_law_plain.<locals>.<lambda>")]⟩
theorem facts {l : PySem.W.OpenLaw} {w : World} {K : PySem.W.Frag} {h : Heap} {mg : Str → Option Value} {fa : Addr} (X : K.In h) (G : h.Ns mainGlobals mg) (hfa : mg ("law" : Str) = some (.ref fa)) (c : He.SaysX dFa dFns [] dTf dEx w h K) : LamX.LawAtS l w K (L2.CX l.prog w) 11 63 "script" mg fa h := by
  have d : He.SaysD dFa dFns K := c.t.d
  have gl : ∀ x ∈ dDs.map (·.1), mg x = some (.ref (He.ga K x)) := fun x hx => He.glo_ok X G (d.facts (List.mem_append_left _ (by
    obtain ⟨p, hp, rfl⟩ := List.mem_map.mp hx
    exact List.mem_map.mpr ⟨p, hp, rfl⟩)))
  have fr : ∀ x ∈ dFree, mg x = none := fun x hx => He.free_ok X G (d.facts (List.mem_append_right _ (List.mem_append_left _ (List.mem_map_of_mem hx))))
  have ot : ∀ (i : Nat) (f : He.Fa), ([.str "RANKS" "A23456789TJQK", .str "SUITS" "CDHS", .glo "DeckError", .exc "DeckError", .glo "ShuffleError", .exc "ShuffleError", .glo "TrickError", .exc "TrickError", .glo "CardError", .exm "TrickError" "CardError" true, .exm "ShuffleError" "CardError" true, .exm "DeckError" "CardError" true, .glo "ORDERS"] : List He.Fa)[i]? = some f → f.ok K = true := fun i f hf => d.facts (List.mem_append_right _ (List.mem_append_right _ (List.mem_of_getElem? hf)))
  have fn : ∀ (x : Str) (st : Stmt) (i : Nat), dDs[i]? = some (x, st) → ∃ fd, Fun K x x st (He.ga K x) fd := fun x st i hi => by
    obtain ⟨fd, F⟩ := d.def_ i (d := dfn x st) (by unfold dFns; rw [List.getElem?_map, hi]; rfl)
    exact ⟨fd, fun_of F⟩
  obtain ⟨fd0, F0⟩ := fn "check_card" st_check_card 0 rfl
  obtain ⟨fd1, F1⟩ := fn "full_deck" st_full_deck 1 rfl
  obtain ⟨fd2, F2⟩ := fn "is_red" st_is_red 2 rfl
  obtain ⟨fd3, F3⟩ := fn "dealt" st_dealt 3 rfl
  obtain ⟨fd4, F4⟩ := fn "gathered" st_gathered 4 rfl
  obtain ⟨fd5, F5⟩ := fn "riffled" st_riff 5 rfl
  obtain ⟨fd6, F6⟩ := fn "three_heaps" st_three 6 rfl
  obtain ⟨fd7, F7⟩ := fn "answers_for" st_ans 7 rfl
  obtain ⟨fd8, F8⟩ := fn "is_paired" st_paired 8 rfl
  obtain ⟨fd9, F9⟩ := fn "magic_riffle" st_magic 9 rfl
  obtain ⟨fd10, F10⟩ := fn "colours_of" st_colours 10 rfl
  obtain ⟨fd11, F11⟩ := fn "piano" st_piano 11 rfl
  obtain ⟨fd12, F12⟩ := fn "spelled" st_spelled 12 rfl
  obtain ⟨fd13, F13⟩ := fn "value_of" st_value 13 rfl
  obtain ⟨fd14, F14⟩ := fn "five_told" st_five 14 rfl
  obtain ⟨fd15, F15⟩ := fn "told_by" st_toldby 15 rfl
  obtain ⟨fd16, F16⟩ := fn "_law_dice" st_dice 16 rfl
  obtain ⟨fd17, F17⟩ := fn "_law_roll" st_roll 17 rfl
  obtain ⟨fd18, F18⟩ := fn "_law_rounds" st_rounds 18 rfl
  obtain ⟨fd19, F19⟩ := fn "_law_told" st_told 19 rfl
  obtain ⟨fd20, F20⟩ := fn "_law_deck" st_ldeck 20 rfl
  obtain ⟨fd21, F21⟩ := fn "_law_mixed" st_mixed 21 rfl
  obtain ⟨fd22, F22⟩ := fn "_law_heaps" st_lheaps 22 rfl
  obtain ⟨fd23, F23⟩ := fn "_law_key" st_lkey 23 rfl
  obtain ⟨fd24, F24⟩ := fn "_law_five" st_lfive 24 rfl
  obtain ⟨fd25, F25⟩ := fn "_law_plain" st_plain 25 rfl
  obtain ⟨fd26, F26⟩ := fn "law" st_law 26 rfl
  have g : ∀ (i : Nat) (p : Str × Stmt), dDs[i]? = some p → mg p.1 = some (.ref (He.ga K p.1)) := fun i p hi => gl p.1 (List.mem_map.mpr ⟨p, List.mem_of_getElem? hi, rfl⟩)
  have e := hfa.symm.trans (g 26 ("law", st_law) rfl)
  cases e
  obtain ⟨m1, m2⟩ := He.ba c.more
  obtain ⟨m2, m3⟩ := He.ba m2
  have nd : (tbs K).Nodup := of_decide_eq_true m1
  have hns : PySem.W.subIn K (.ref (He.ga K "DeckError")) (.type "StopIteration") = some false := of_decide_eq_true m2
  have Or : Ords K mg := ⟨_, He.glo_ok X G (ot 12 _ rfl), fun G' => two_ok m3 G'⟩
  have exT : PySem.W.exmOne K (.ref (He.ga K "TrickError")) (.ref (He.ga K "CardError")) = some true := He.exm_ok (ot 9 _ rfl)
  have exS : PySem.W.exmOne K (.ref (He.ga K "ShuffleError")) (.ref (He.ga K "CardError")) = some true := He.exm_ok (ot 10 _ rfl)
  have exD : PySem.W.exmOne K (.ref (He.ga K "DeckError")) (.ref (He.ga K "CardError")) = some true := He.exm_ok (ot 11 _ rfl)
  have fl := fr "len" (by decide +kernel)
  have ft := fr "tuple" (by decide +kernel)
  have fs := fr "list" (by decide +kernel)
  have frg := fr "range" (by decide +kernel)
  have fi := fr "int" (by decide +kernel)
  have fab := fr "abs" (by decide +kernel)
  have fm := fr "min" (by decide +kernel)
  have fz := fr "zip" (by decide +kernel)
  have fe := fr "enumerate" (by decide +kernel)
  have fsu := fr "sum" (by decide +kernel)
  have fan := fr "any" (by decide +kernel)
  have fst := fr "str" (by decide +kernel)
  have fal := fr "all" (by decide +kernel)
  have fso := fr "sorted" (by decide +kernel)
  have fma := fr "max" (by decide +kernel)
  have fdi := fr "dict" (by decide +kernel)
  have Dk : Deck K mg (He.ga K "DeckError") := ⟨fl, He.str_ok X G (ot 0 _ rfl), He.str_ok X G (ot 1 _ rfl), xc_of X G (ot 2 _ rfl) (ot 3 _ rfl)⟩
  have Ds : Shf K mg (He.ga K "ShuffleError") := ⟨fl, ft, fs, frg, fi, fz, fe, fsu, fan, xc_of X G (ot 4 _ rfl) (ot 5 _ rfl)⟩
  have D : Trk K mg (He.ga K "TrickError") := ⟨fl, ft, fs, frg, fso, fan, fal, He.str_ok X G (ot 0 _ rfl), He.str_ok X G (ot 1 _ rfl), xc_of X G (ot 6 _ rfl) (ot 7 _ rfl)⟩
  refine law_at (T := tbOf K) (cs := dTf.map (He.cT K)) (fd := fd26) (fun p hp => ?_) (fun p hp => ?_) (fun p hp => ?_) (fun P hP => ?_) (fun q hq => ?_) (fun s u => ?_) fun base KB GB TB => ?_
  · obtain ⟨x, hx, rfl⟩ := List.mem_map.mp hp
    exact c.empty x hx
  · obtain ⟨x, hx, rfl⟩ := List.mem_map.mp hp
    exact c.out x hx
  · obtain ⟨x, hx, rfl⟩ := List.mem_map.mp hp
    exact codeHd_of_K X (c.hd x hx)
  · have hP : P ∈ [tP K "dealt", tP K "riffled", tP K "three_heaps", tP K "is_paired", tP K "colours_of", tP K "five_told", tP K "told_by"] := hP
    simp only [List.mem_cons, List.not_mem_nil, or_false] at hP
    rcases hP with rfl | rfl | rfl | rfl | rfl | rfl | rfl
    · exact ⟨_, List.mem_map_of_mem (f := He.cT K) (List.mem_of_getElem? (l := dTf) (i := 0) rfl), rfl⟩
    · exact ⟨_, List.mem_map_of_mem (f := He.cT K) (List.mem_of_getElem? (l := dTf) (i := 1) rfl), rfl⟩
    · exact ⟨_, List.mem_map_of_mem (f := He.cT K) (List.mem_of_getElem? (l := dTf) (i := 2) rfl), rfl⟩
    · exact ⟨_, List.mem_map_of_mem (f := He.cT K) (List.mem_of_getElem? (l := dTf) (i := 3) rfl), rfl⟩
    · exact ⟨_, List.mem_map_of_mem (f := He.cT K) (List.mem_of_getElem? (l := dTf) (i := 4) rfl), rfl⟩
    · exact ⟨_, List.mem_map_of_mem (f := He.cT K) (List.mem_of_getElem? (l := dTf) (i := 5) rfl), rfl⟩
    · exact ⟨_, List.mem_map_of_mem (f := He.cT K) (List.mem_of_getElem? (l := dTf) (i := 6) rfl), rfl⟩
  · have hq : q ∈ [(tP K "law", ("law.<locals>.<lambda>" : Str)), (tP K "_law_plain", ("_law_plain.<locals>.<lambda>" : Str))] := hq
    simp only [List.mem_cons, List.not_mem_nil, or_false] at hq
    rcases hq with rfl | rfl
    · exact ⟨_, List.mem_map_of_mem (f := He.cT K) (List.mem_of_getElem? (l := dTf) (i := 7) rfl), rfl⟩
    · exact ⟨_, List.mem_map_of_mem (f := He.cT K) (List.mem_of_getElem? (l := dTf) (i := 8) rfl), rfl⟩
  · exact binds_one F26 (fun _ _ _ _ _ _ _ => rfl) s u
  · have dif : ∀ i j : Nat, i ≠ j → ∀ a, (tbs K)[i]? = some a → (tbs K)[j]? = some a → False := fun i j hij a ha hb => by
      have hi : i < (tbs K).length := (List.getElem?_eq_some_iff.mp ha).1
      exact hij ((List.getElem?_inj hi nd).mp (ha.trans hb.symm))
    have hdif : ∀ i, i < 7 → ∀ a, (tbs K)[i]? = some a → a ∉ (tbOf K).l.map (·.1) := fun i hi a ha hm => by
      have hm : a ∈ [tP K "law", tP K "_law_plain"] := hm
      simp only [List.mem_cons, List.not_mem_nil, or_false] at hm
      rcases hm with rfl | rfl
      · exact dif i 7 (by omega) _ ha rfl
      · exact dif i 8 (by omega) _ ha rfl
    have t3 := tab_of (T := tbOf K) (tf := dTf) F3 TB (List.mem_of_getElem? (i := 0) rfl) (List.mem_of_getElem? (i := 0) rfl) (hdif 0 (by decide) _ rfl)
    have t5 := tab_of (T := tbOf K) (tf := dTf) F5 TB (List.mem_of_getElem? (i := 1) rfl) (List.mem_of_getElem? (i := 1) rfl) (hdif 1 (by decide) _ rfl)
    have t6 := tab_of (T := tbOf K) (tf := dTf) F6 TB (List.mem_of_getElem? (i := 2) rfl) (List.mem_of_getElem? (i := 2) rfl) (hdif 2 (by decide) _ rfl)
    have t8 := tab_of (T := tbOf K) (tf := dTf) F8 TB (List.mem_of_getElem? (i := 3) rfl) (List.mem_of_getElem? (i := 3) rfl) (hdif 3 (by decide) _ rfl)
    have t10 := tab_of (T := tbOf K) (tf := dTf) F10 TB (List.mem_of_getElem? (i := 4) rfl) (List.mem_of_getElem? (i := 4) rfl) (hdif 4 (by decide) _ rfl)
    have t14 := tab_of (T := tbOf K) (tf := dTf) F14 TB (List.mem_of_getElem? (i := 5) rfl) (List.mem_of_getElem? (i := 5) rfl) (hdif 5 (by decide) _ rfl)
    have t15 := tab_of (T := tbOf K) (tf := dTf) F15 TB (List.mem_of_getElem? (i := 6) rfl) (List.mem_of_getElem? (i := 6) rfl) (hdif 6 (by decide) _ rfl)
    have check_card : Fd l.prog w K mg base (tbOf K) "check_card" 1 1 _ := Fd.mk2 F0 (g 0 _ rfl) (ok_check_card (k := 0) Dk F0) (fun _ _ _ _ _ _ us hl => match us, hl with | [_], _ => rfl)
    have full_deck : Fd l.prog w K mg base (tbOf K) "full_deck" 1 0 _ := Fd.mk2 F1 (g 1 _ rfl) (ok_full_deck (k := 0) Dk ft F1) (fun _ _ _ _ _ _ us hl => match us, hl with | [], _ => rfl)
    have is_red : Fd l.prog w K mg base (tbOf K) "is_red" 2 1 _ := Fd.mk2 F2 (g 2 _ rfl) (ok_is_red (k := 1) Dk check_card F2) (fun _ _ _ _ _ _ us hl => match us, hl with | [_], _ => rfl)
    have dealt : Fd l.prog w K mg base (tbOf K) "dealt" 4 2 _ := Fd.mk2 F3 (g 3 _ rfl) (ok_dealt (k := 3) Dk ft frg t3 (by decide) F3) (fun _ _ _ _ _ _ us hl => match us, hl with | [_, _], _ => rfl)
    have gathered : Fd l.prog w K mg base (tbOf K) "gathered" 1 1 _ := Fd.mk2 F4 (g 4 _ rfl) (ok_gathered (k := 0) ft fs F4) (fun _ _ _ _ _ _ us hl => match us, hl with | [_], _ => rfl)
    have riffled : Fd l.prog w K mg base (tbOf K) "riffled" 4 2 _ := Fd.mk2 F5 (g 5 _ rfl) (ok_riff (k := 3) Ds t5 (by decide) F5) (fun _ _ _ _ _ _ us hl => match us, hl with | [_, _], _ => rfl)
    have three_heaps : Fd l.prog w K mg base (tbOf K) "three_heaps" 5 2 _ := Fd.mk2 F6 (g 6 _ rfl) (ok_three (k := 4) D dealt (gathered.up (by decide)) t6 (by decide) F6) (fun _ _ _ _ _ _ us hl => match us, hl with | [_, _], _ => rfl)
    have answers_for : Fd l.prog w K mg base (tbOf K) "answers_for" 6 3 _ := Fd.mk2 F7 (g 7 _ rfl) (ok_ans (k := 5) D (dealt.up (by decide)) three_heaps F7) (fun _ _ _ _ _ _ us hl => match us, hl with | [_, _, _], _ => rfl)
    have is_paired : Fd l.prog w K mg base (tbOf K) "is_paired" 4 2 _ := Fd.mk2 F8 (g 8 _ rfl) (ok_paired (k := 3) D t8 (by decide) F8) (fun _ _ _ _ _ _ us hl => match us, hl with | [_, _], _ => rfl)
    have magic_riffle : Fd l.prog w K mg base (tbOf K) "magic_riffle" 5 3 _ := Fd.mk2 F9 (g 9 _ rfl) (ok_magic (k := 4) D riffled F9) (fun _ _ _ _ _ _ us hl => match us, hl with | [_, _, _], _ => rfl)
    have colours_of : Fd l.prog w K mg base (tbOf K) "colours_of" 7 1 _ := Fd.mk2 F10 (g 10 _ rfl) (ok_colours (k := 3) D (is_red.up (by decide)) t10 hns (by decide) F10) (fun _ _ _ _ _ _ us hl => match us, hl with | [_], _ => rfl)
    have piano : Fd l.prog w K mg base (tbOf K) "piano" 1 2 _ := Fd.mk2 F11 (g 11 _ rfl) (ok_piano (k := 0) D F11) (fun _ _ _ _ _ _ us hl => match us, hl with | [_, _], _ => rfl)
    have spelled : Fd l.prog w K mg base (tbOf K) "spelled" 1 2 _ := Fd.mk2 F12 (g 12 _ rfl) (ok_spelled (k := 0) D F12) (fun _ _ _ _ _ _ us hl => match us, hl with | [_, _], _ => rfl)
    have value_of : Fd l.prog w K mg base (tbOf K) "value_of" 1 1 _ := Fd.mk2 F13 (g 13 _ rfl) (ok_value (k := 0) D F13) (fun _ _ _ _ _ _ us hl => match us, hl with | [_], _ => rfl)
    have five_told : Fd l.prog w K mg base (tbOf K) "five_told" 6 1 _ := Fd.mk2 F14 (g 14 _ rfl) (ok_five (k := 3) D Or (value_of.up (by decide)) t14 (by decide) F14) (fun _ _ _ _ _ _ us hl => match us, hl with | [_], _ => rfl)
    have told_by : Fd l.prog w K mg base (tbOf K) "told_by" 6 1 _ := Fd.mk2 F15 (g 15 _ rfl) (ok_toldby (k := 3) D Or (value_of.up (by decide)) t15 (by decide) F15) (fun _ _ _ _ _ _ us hl => match us, hl with | [_], _ => rfl)
    have law_dice : FdR l.prog w K mg base (tbOf K) "_law_dice" 1 1 _ := FdR.mk2 F16 (g 16 _ rfl) (ok_dice (k := 0) fab fi F16) (fun _ _ _ _ _ _ us hl => match us, hl with | [_], _ => rfl)
    have law_roll : Fd l.prog w K mg base (tbOf K) "_law_roll" 1 2 _ := Fd.mk2 F17 (g 17 _ rfl) (ok_roll (k := 0) fi F17) (fun _ _ _ _ _ _ us hl => match us, hl with | [_, _], _ => rfl)
    have law_rounds : FdR l.prog w K mg base (tbOf K) "_law_rounds" 2 2 _ := FdR.mk2 F18 (g 18 _ rfl) (ok_rounds (k := 1) law_dice F18) (fun _ _ _ _ _ _ us hl => match us, hl with | [_, _], _ => rfl)
    have law_deck : Fd l.prog w K mg base (tbOf K) "_law_deck" 1 0 _ := Fd.mk2 F20 (g 20 _ rfl) (ok_ldeck (k := 0) F20) (fun _ _ _ _ _ _ us hl => match us, hl with | [], _ => rfl)
    have law_mixed : Fd l.prog w K mg base (tbOf K) "_law_mixed" 2 3 _ := Fd.mk2 F21 (g 21 _ rfl) (ok_mixed (k := 1) fs frg fm fl law_roll F21) (fun _ _ _ _ _ _ us hl => match us, hl with | [_, _, _], _ => rfl)
    have law_heaps : Fd l.prog w K mg base (tbOf K) "_law_heaps" 1 2 _ := Fd.mk2 F22 (g 22 _ rfl) (ok_lheaps (k := 0) D F22) (fun _ _ _ _ _ _ us hl => match us, hl with | [_, _], _ => rfl)
    have law_key : Fd l.prog w K mg base (tbOf K) "_law_key" 1 1 _ := Fd.mk2 F23 (g 23 _ rfl) (ok_lkey (k := 0) F23) (fun _ _ _ _ _ _ us hl => match us, hl with | [_], _ => rfl)
    have law_five : Fd l.prog w K mg base (tbOf K) "_law_five" 4 1 _ := Fd.mk2 F24 (g 24 _ rfl) (ok_lfive (k := 1) fso law_key F24) (fun _ _ _ _ _ _ us hl => match us, hl with | [_], _ => rfl)
    have told : Sh.Told l.prog w K mg "_law_told" (He.ga K "CardError") "CardError" := told_of (a := "what") (e := "CardError") F19 (g 19 _ rfl) rfl ⟨rfl, rfl, rfl, by decide +kernel, rfl, by decide +kernel, by decide +kernel⟩ (.inl rfl) rfl (He.glo_ok X G (ot 8 _ rfl)) (fun _ _ _ _ _ _ us hl => match us, hl with | [_], _ => rfl)
    have L0 : LawK l.prog w K mg base (tbOf K) 7 (He.ga K "TrickError") (He.ga K "ShuffleError") (He.ga K "DeckError") (He.ga K "CardError") := ⟨D, fst, fi, fma, fdi, fe, exT, exS, exD, law_roll.up (by decide), law_mixed.up (by decide), law_deck.up (by decide), law_rounds.imp (by decide), told, law_heaps.up (by decide), law_key.up (by decide), law_five.up (by decide), three_heaps.up (by decide), answers_for.up (by decide), is_paired.up (by decide), magic_riffle.up (by decide), colours_of.up (by decide), piano.up (by decide), spelled.up (by decide), five_told.up (by decide), value_of.up (by decide), told_by.up (by decide)⟩
    have hmu : ∀ i j : Nat, 7 ≤ i → 7 ≤ j → i < 9 → j < 9 → True := fun _ _ _ _ _ _ => trivial
    have hne : tP K "law" ≠ tP K "_law_plain" := fun e => dif 7 8 (by decide) (tP K "law") rfl (by rw [e]; rfl)
    have plain : Fd l.prog w K mg base (tbOf K) "_law_plain" 10 0 SPlain := Fd.mk2 F25 (g 25 _ rfl) (ok_plain (k := 7) ⟨L0, Or, full_deck.up (by decide)⟩ (code_of F25 (p := ("_law_plain", none)) rfl) (TB _ (List.mem_map_of_mem (List.mem_of_getElem? (i := 8) rfl))) (List.mem_of_getElem? (i := 1) rfl) (fun p hp he => by
      have hp : p ∈ [(tP K "law", ("law.<locals>.<lambda>" : Str)), (tP K "_law_plain", ("_law_plain.<locals>.<lambda>" : Str))] := hp
      simp only [List.mem_cons, List.not_mem_nil, or_false] at hp
      rcases hp with rfl | rfl
      · exact absurd he hne
      · rfl) F25) (fun _ _ _ _ _ _ us hl => match us, hl with | [], _ => rfl)
    exact ok_law (k := 8) (L0.mono (by decide)) plain (code_of F26 (p := ("law", none)) rfl) (TB _ (List.mem_map_of_mem (List.mem_of_getElem? (i := 7) rfl))) (List.mem_of_getElem? (i := 0) rfl) (fun p hp he => by
      have hp : p ∈ [(tP K "law", ("law.<locals>.<lambda>" : Str)), (tP K "_law_plain", ("_law_plain.<locals>.<lambda>" : Str))] := hp
      simp only [List.mem_cons, List.not_mem_nil, or_false] at hp
      rcases hp with rfl | rfl
      · rfl
      · exact absurd he.symm hne) F26
end S3
set_option Elab.async false
set_option linter.all false
set_option maxRecDepth 100000
set_option autoImplicit false
open PySem PySem.W PySem.Calls PyProof.Rows
set_option maxRecDepth 100000 in
set_option maxHeartbeats 0 in
theorem PySem.Challenge.cw_shufflestack_k03_tricks_that_find_a_card_holds : PySem.Challenge.rw_shufflestack_k03_tricks_that_find_a_card.Holds := by
  w_on; o_law
  refine HandSHeadRun.head_any (r := S3.R) (q := view S3.R.prog [38]) (H := S3.hk) (ob := S3.ob) (M := 2000) (loose := S3.dNames) (d := HandSHeadRun.topDef S3.R.prog 38) (kwd := []) S3.ob_eq
    (by kernel_rfl) (fun s => by kernel_rfl) S3.run (by kernel_rfl) (by kernel_rfl) (by kernel_rfl) (by rfl) (by first | assumption | decide +kernel) (by decide +kernel) ⟨rfl, rfl, rfl, rfl, rfl, by decide +kernel⟩ ?hw ?hc
  case hw => w_witness2
  case hc =>
    refine LamX.walk_ofTsE (l := PySem.Challenge.rw_shufflestack_k03_tricks_that_find_a_card) (n := 63) (k := 11) (x := "script") (CX := fun w => L2.CX (PySem.Challenge.rw_shufflestack_k03_tricks_that_find_a_card).prog w) rfl (by decide) (by kernel_rfl) ⟨rfl, by decide, by decide⟩ ?F (fun w H s e s' h => Sh.cx_none h)
    intro w mg fa h Y G hmg0
    obtain ⟨K, KX, c⟩ := Y
    have hmg : mg ("law" : PySem.Str) = some (.ref fa) := by
      have e : (HandSHeadRun.topDef S3.R.prog 38).name = ("law" : PySem.Str) := by kernel_rfl
      rw [← e]
      exact hmg0
    exact ⟨K, KX, S3.facts KX G hmg c⟩
