import PyProof.Rows.All
import Wide.All
import OpenK.AllK
import Wide.FinOn
import HandS.ForMost
import HandS.ForExc
import HandS.Lambda
import HandS.Conv
import HandS.Deep
import HandS.TupAny
import HandS.Style
import HandS.Small
import HandS.Flow
import HandS.Codes
import HandS.Dict
import HandS.SortInts
import HandS.SetFor
import HandS.Strs
import HandS.Text
import HandS.Replace
import HandS.GenList
import HandS.AnyAll
import PyProof.TupleOfGen
import PyProof.CollectWalk
import PyProof.SumAny
import PyProof.ConsumeWalk
import HandS.Zip
import HandS.Iter
import HandS.DictComp
import HandS.WordsDict
import KE.DataMinMax
import KE.DatumOrd
import HandS.Words
import HandS.WordsExc
import HandS.Defaults
import HandS.Head0
import HandS.Head1
import HandS.Head2
import HandS.HeadHook1
import HandS.HeadHook2
import HandS.HeadHook3
import HandS.HeadHook4
import HandS.HeadWalk
import HandS.EndTab
import KE.OsSort
import KE.KStateDown
import PySem.Challenge.RW_shufflestack_k01_decks_and_hands
set_option Elab.async false
set_option linter.all false
set_option maxRecDepth 100000
set_option maxHeartbeats 1000000
set_option autoImplicit false
/-! ShA: abstract data over the layer HandS: what a value stands for (Rp) in a heap that is frozen (G), what is owned (W), how one state follows on another (Step). -/
namespace Sh
open PySem PySem.Spec PyProof.Rows L2

/-- data -/
inductive D where
  | non | bl (b : Bool) | int (i : Int) | str (x : Str) | tup (l : List D) | lst (l : List D) | dct (l : List (Key × D)) | ptr (a : Addr) | pr (l : List D)

/-- a tuple to be read whose object has no dict of its own -/
def TupK (K : PySem.W.Frag) (G : Hp) (a : Addr) (vs : List V) : Prop :=
  (∃ o : Obj, G a = some (.frz o (.tup vs)) ∧ o.cls = .type "tuple" ∧ o.dict = none) ∨
    ∃ (o : Obj) (its : Array Value) (n : Nat), K.lookup a = some o ∧ o.cls = .type "tuple" ∧ o.dict = none ∧ o.data = .seq its n ∧ its.size ≤ sizeLine ∧ Vals vs its.toList
theorem TupK.sq {K : PySem.W.Frag} {G : Hp} {a : Addr} {vs : List V} (h : TupK K G a vs) : SqT K G a vs := by
  rcases h with ⟨o, e, _, _⟩ | ⟨o, its, n, h1, h2, _, h4, h5, h6⟩
  · exact .inl (.inr ⟨o, e⟩)
  · exact .inr ⟨o, its, n, h1, h2, h4, h5, h6⟩
theorem TupK.mono {K : PySem.W.Frag} {G G' : Hp} {a : Addr} {vs : List V} (e : ∀ a o, G a = some o → G' a = some o) (h : TupK K G a vs) : TupK K G' a vs := by
  rcases h with ⟨o, q, r⟩ | h
  · exact .inl ⟨o, e _ _ q, r⟩
  · exact .inr h
/-- v stands for d, the objects read in G -/
inductive Rp (K : PySem.W.Frag) (G : Hp) : V → D → Prop
  | non : Rp K G .non .non
  | bl (b : Bool) : Rp K G (.bl b) (.bl b)
  | int (i : Int) : Rp K G (.int i) (.int i)
  | str (x : Str) : Rp K G (.str x) (.str x)
  | ptr (a : Addr) : Rp K G (.ref a) (.ptr a)
  | tup {a : Addr} {vs : List V} {ds : List D} : TupK K G a vs → vs.length = ds.length → (∀ (i : Nat) (v : V) (d : D), vs[i]? = some v → ds[i]? = some d → Rp K G v d) → Rp K G (.ref a) (.tup ds)
  | lst {a : Addr} {vs : List V} {ds : List D} : G a = some (.lst vs) → vs.length = ds.length → (∀ (i : Nat) (v : V) (d : D), vs[i]? = some v → ds[i]? = some d → Rp K G v d) → Rp K G (.ref a) (.lst ds)
  | dct {a : Addr} {o : Obj} {kvs : List (Key × V)} {ds : List (Key × D)} : G a = some (.frz o (.dK kvs)) → kvs.map (·.1) = ds.map (·.1) → (∀ (i : Nat) (v : V) (d : D), (kvs.map (·.2))[i]? = some v → (ds.map (·.2))[i]? = some d → Rp K G v d) → Rp K G (.ref a) (.dct ds)

/-- item by item -/
def Rps (K : PySem.W.Frag) (G : Hp) (vs : List V) (ds : List D) : Prop := vs.length = ds.length ∧ ∀ (i : Nat) (v : V) (d : D), vs[i]? = some v → ds[i]? = some d → Rp K G v d

/-- what is frozen has grown -/
def Le (G G' : Hp) : Prop := ∀ a o, G a = some o → G' a = some o
theorem Le.refl (G : Hp) : Le G G := fun _ _ h => h
theorem Le.trans {G G1 G2 : Hp} (a : Le G G1) (b : Le G1 G2) : Le G G2 := fun x o h => b x o (a x o h)
theorem Le.rd {G G' : Hp} {a : Addr} {u : HO} (e : Le G G') (h : Rd G a u) : Rd G' a u := by
  rcases h with h | ⟨o, h⟩
  · exact Or.inl (e a _ h)
  · exact Or.inr ⟨o, e a _ h⟩
theorem Le.sl {K : PySem.W.Frag} {G G' : Hp} {a : Addr} {xs : List V} (e : Le G G') (h : SqL K G a xs) : SqL K G' a xs := by
  rcases h with h | h
  · exact Or.inl (e.rd h)
  · exact Or.inr h
theorem Le.st {K : PySem.W.Frag} {G G' : Hp} {a : Addr} {xs : List V} (e : Le G G') (h : SqT K G a xs) : SqT K G' a xs := by
  rcases h with h | h
  · exact Or.inl (e.rd h)
  · exact Or.inr h
theorem Rp.mono {K : PySem.W.Frag} {G G' : Hp} (e : Le G G') {v : V} {d : D} (h : Rp K G v d) : Rp K G' v d := by
  induction h with
  | non => exact .non
  | bl b => exact .bl b
  | int i => exact .int i
  | str x => exact .str x
  | ptr a => exact .ptr a
  | tup h1 h2 _ ih => exact .tup (h1.mono e) h2 ih
  | lst h1 h2 _ ih => exact .lst (e _ _ h1) h2 ih
  | dct h1 h2 _ ih => exact .dct (e _ _ h1) h2 ih
theorem Rps.mono {K : PySem.W.Frag} {G G' : Hp} (e : Le G G') {vs : List V} {ds : List D} (h : Rps K G vs ds) : Rps K G' vs ds := ⟨h.1, fun i v d a b => (h.2 i v d a b).mono e⟩

section
variable {K : PySem.W.Frag} {G : Hp}
theorem Rps.nil : Rps K G [] [] := ⟨rfl, fun i v d a _ => by simp at a⟩
theorem Rps.cons {v : V} {d : D} {vs : List V} {ds : List D} (h : Rp K G v d) (t : Rps K G vs ds) : Rps K G (v :: vs) (d :: ds) := by
  refine ⟨by rw [List.length_cons, List.length_cons, t.1], fun i w e a b => ?_⟩
  cases i with
  | zero =>
    rw [List.getElem?_cons_zero] at a b
    cases a
    cases b
    exact h
  | succ i =>
    rw [List.getElem?_cons_succ] at a b
    exact t.2 i w e a b
theorem Rps.head {v : V} {d : D} {vs : List V} {ds : List D} (h : Rps K G (v :: vs) (d :: ds)) : Rp K G v d := h.2 0 v d rfl rfl
theorem Rps.tail {v : V} {d : D} {vs : List V} {ds : List D} (h : Rps K G (v :: vs) (d :: ds)) : Rps K G vs ds :=
  ⟨by have := h.1; rw [List.length_cons, List.length_cons] at this; omega, fun i w e a b => h.2 (i + 1) w e (by rw [List.getElem?_cons_succ]; exact a) (by rw [List.getElem?_cons_succ]; exact b)⟩
theorem Rps.inv {vs : List V} {d : D} {ds : List D} (h : Rps K G vs (d :: ds)) : ∃ v vs', vs = v :: vs' ∧ Rp K G v d ∧ Rps K G vs' ds := by
  cases vs with
  | nil => have := h.1; simp at this
  | cons v vs => exact ⟨v, vs, rfl, h.head, h.tail⟩
theorem Rps.inv0 {vs : List V} (h : Rps K G vs []) : vs = [] := by
  cases vs with
  | nil => rfl
  | cons v vs => have := h.1; simp at this
theorem Rps.append {vs ws : List V} {ds es : List D} (h : Rps K G vs ds) (t : Rps K G ws es) : Rps K G (vs ++ ws) (ds ++ es) := by
  induction ds generalizing vs with
  | nil =>
    rw [h.inv0]
    exact t
  | cons d ds ih =>
    obtain ⟨v, vs', rfl, h1, h2⟩ := h.inv
    exact (ih h2).cons h1
theorem Rps.snoc {vs : List V} {ds : List D} {v : V} {d : D} (h : Rps K G vs ds) (t : Rp K G v d) : Rps K G (vs ++ [v]) (ds ++ [d]) := h.append (Rps.nil.cons t)
theorem Rps.take {vs : List V} {ds : List D} (h : Rps K G vs ds) (n : Nat) : Rps K G (vs.take n) (ds.take n) := by
  refine ⟨by rw [List.length_take, List.length_take, h.1], fun i v d a b => ?_⟩
  rw [List.getElem?_take] at a b
  split at a
  · rename_i hi
    rw [if_pos hi] at b
    exact h.2 i v d a b
  · cases a
theorem Rps.drop {vs : List V} {ds : List D} (h : Rps K G vs ds) (n : Nat) : Rps K G (vs.drop n) (ds.drop n) := by
  refine ⟨by rw [List.length_drop, List.length_drop, h.1], fun i v d a b => ?_⟩
  rw [List.getElem?_drop] at a b
  exact h.2 _ v d a b
theorem Rps.reverse {vs : List V} {ds : List D} (h : Rps K G vs ds) : Rps K G vs.reverse ds.reverse := by
  induction ds generalizing vs with
  | nil =>
    rw [h.inv0]
    exact .nil
  | cons d ds ih =>
    obtain ⟨v, vs', rfl, h1, h2⟩ := h.inv
    rw [List.reverse_cons, List.reverse_cons]
    exact (ih h2).snoc h1
theorem Rps.get {vs : List V} {ds : List D} (h : Rps K G vs ds) {i : Nat} {d : D} (e : ds[i]? = some d) : ∃ v, vs[i]? = some v ∧ Rp K G v d := by
  have hi : i < vs.length := by
    rw [h.1]
    exact (List.getElem?_eq_some_iff.mp e).1
  exact ⟨vs[i], List.getElem?_eq_getElem hi, h.2 i _ d (List.getElem?_eq_getElem hi) e⟩
theorem Rps.getV {vs : List V} {ds : List D} (h : Rps K G vs ds) {i : Nat} {v : V} (e : vs[i]? = some v) : ∃ d, ds[i]? = some d ∧ Rp K G v d := by
  have hi : i < ds.length := by
    rw [← h.1]
    exact (List.getElem?_eq_some_iff.mp e).1
  exact ⟨ds[i], List.getElem?_eq_getElem hi, h.2 i v _ e (List.getElem?_eq_getElem hi)⟩
theorem Rps.set {vs : List V} {ds : List D} (h : Rps K G vs ds) (j : Nat) {v : V} {d : D} (r : Rp K G v d) : Rps K G (vs.set j v) (ds.set j d) := by
  refine ⟨by rw [List.length_set, List.length_set, h.1], fun i w e a b => ?_⟩
  by_cases hj : j = i
  · subst hj
    have hl : j < vs.length := by
      have := (List.getElem?_eq_some_iff.mp a).1
      rw [List.length_set] at this
      exact this
    rw [List.getElem?_set_self hl] at a
    rw [List.getElem?_set_self (by rw [← h.1]; exact hl)] at b
    cases a
    cases b
    exact r
  · rw [List.getElem?_set_ne hj] at a b
    exact h.2 i w e a b
theorem Rps.replicate (n : Nat) {v : V} {d : D} (r : Rp K G v d) : Rps K G (List.replicate n v) (List.replicate n d) := by
  induction n with
  | zero => exact .nil
  | succ n ih => exact ih.cons r
/-- the values of plain data are known -/
theorem Rp.int_inv {v : V} {i : Int} (h : Rp K G v (.int i)) : v = .int i := by cases h; rfl
theorem Rp.bl_inv {v : V} {b : Bool} (h : Rp K G v (.bl b)) : v = .bl b := by cases h; rfl
theorem Rp.str_inv {v : V} {x : Str} (h : Rp K G v (.str x)) : v = .str x := by cases h; rfl
theorem Rp.non_inv {v : V} (h : Rp K G v .non) : v = .non := by cases h; rfl
theorem Rp.ptr_inv {v : V} {a : Addr} (h : Rp K G v (.ptr a)) : v = .ref a := by cases h; rfl
theorem Rp.tup_inv {v : V} {ds : List D} (h : Rp K G v (.tup ds)) : ∃ a vs, v = .ref a ∧ TupK K G a vs ∧ Rps K G vs ds := by
  cases h with
  | tup h1 h2 h3 => exact ⟨_, _, rfl, h1, h2, h3⟩
theorem Rp.lst_inv {v : V} {ds : List D} (h : Rp K G v (.lst ds)) : ∃ a vs, v = .ref a ∧ G a = some (.lst vs) ∧ Rps K G vs ds := by
  cases h with
  | lst h1 h2 h3 => exact ⟨_, _, rfl, h1, h2, h3⟩
theorem Rp.tup_mk {a : Addr} {vs : List V} {ds : List D} (h1 : TupK K G a vs) (h2 : Rps K G vs ds) : Rp K G (.ref a) (.tup ds) := .tup h1 h2.1 h2.2
theorem Rp.lst_mk {a : Addr} {vs : List V} {ds : List D} (h1 : G a = some (.lst vs)) (h2 : Rps K G vs ds) : Rp K G (.ref a) (.lst ds) := .lst h1 h2.1 h2.2
theorem Rps.ints : ∀ {vs : List V} {ns : List Int}, Rps K G vs (ns.map .int) → vs = ns.map .int
  | vs, [], h => h.inv0
  | vs, n :: ns, h => by
    obtain ⟨v, vs', rfl, h1, h2⟩ := h.inv
    rw [h1.int_inv, Rps.ints h2]
    rfl
theorem Rps.strs : ∀ {vs : List V} {ns : List Str}, Rps K G vs (ns.map .str) → vs = ns.map .str
  | vs, [], h => h.inv0
  | vs, n :: ns, h => by
    obtain ⟨v, vs', rfl, h1, h2⟩ := h.inv
    rw [h1.str_inv, Rps.strs h2]
    rfl
theorem Rps.bls : ∀ {vs : List V} {ns : List Bool}, Rps K G vs (ns.map .bl) → vs = ns.map .bl
  | vs, [], h => h.inv0
  | vs, n :: ns, h => by
    obtain ⟨v, vs', rfl, h1, h2⟩ := h.inv
    rw [h1.bl_inv, Rps.bls h2]
    rfl
theorem Rps.of_ints : ∀ (ns : List Int), Rps K G (ns.map .int) (ns.map .int)
  | [] => .nil
  | n :: ns => (Rps.of_ints ns).cons (.int n)
theorem Rps.of_strs : ∀ (ns : List Str), Rps K G (ns.map .str) (ns.map .str)
  | [] => .nil
  | n :: ns => (Rps.of_strs ns).cons (.str n)
theorem Rps.of_bls : ∀ (ns : List Bool), Rps K G (ns.map .bl) (ns.map .bl)
  | [] => .nil
  | n :: ns => (Rps.of_bls ns).cons (.bl n)
end

/-! ### what is owned -/
/-- an owned object's content -/
inductive AO where
  | lst (l : List D) | dK (l : List (Key × D)) | ins (C dx : Addr) (fs : List (Str × D)) | raw (o : HO)
  /-- a lambda's object, its code at c -/
  | lam (o : HO) (c : Addr) (q : Str)
/-- pairs with plain first parts -/
def Rpk {κ : Type} (K : PySem.W.Frag) (G : Hp) (kvs : List (κ × V)) (ds : List (κ × D)) : Prop := kvs.map (·.1) = ds.map (·.1) ∧ Rps K G (kvs.map (·.2)) (ds.map (·.2))
def RO (K : PySem.W.Frag) (G : Hp) : HO → AO → Prop
  | .lst vs, .lst ds => Rps K G vs ds
  | .dK kvs, .dK ds => Rpk K G kvs ds
  | .ins C dx fs, .ins C' dx' ds => C = C' ∧ dx = dx' ∧ Rpk K G fs ds
  | o, .raw o' => o = o' ∧ ∀ ps, o ≠ .tbl ps
  | o, .lam o' c q => o = o' ∧ (∀ ps, o ≠ .tbl ps) ∧ G c = some (LamX.CodeO c q)
  | _, _ => False
abbrev OW := List (Addr × AO)
theorem Rpk.mono {κ : Type} {K : PySem.W.Frag} {G G' : Hp} (e : Le G G') {kvs : List (κ × V)} {ds : List (κ × D)} (h : Rpk K G kvs ds) : Rpk K G' kvs ds := ⟨h.1, h.2.mono e⟩
theorem RO.mono {K : PySem.W.Frag} {G G' : Hp} (e : Le G G') {o : HO} {w : AO} (h : RO K G o w) : RO K G' o w := by
  unfold RO at h ⊢
  split at h
  · exact Rps.mono e h
  · exact Rpk.mono e h
  · exact ⟨h.1, h.2.1, h.2.2.mono e⟩
  · exact h
  · exact ⟨h.1, h.2.1, e _ _ h.2.2⟩
  · exact h.elim
theorem RO.ntb {K : PySem.W.Frag} {G : Hp} {o : HO} {w : AO} (h : RO K G o w) (ps : Array Value) : o ≠ .tbl ps := by
  intro e
  subst e
  cases w with
  | lst _ => exact h.elim
  | dK _ => exact h.elim
  | ins _ _ _ => exact h.elim
  | raw _ => exact h.2 ps rfl
  | lam _ _ _ => exact h.2.1 ps rfl
theorem RO.lst_inv {K : PySem.W.Frag} {G : Hp} {o : HO} {ds : List D} (h : RO K G o (.lst ds)) : ∃ vs, o = .lst vs ∧ Rps K G vs ds := by
  cases o with
  | lst vs => exact ⟨vs, rfl, h⟩
  | _ => exact h.elim
theorem RO.dK_inv {K : PySem.W.Frag} {G : Hp} {o : HO} {ds : List (Key × D)} (h : RO K G o (.dK ds)) : ∃ vs, o = .dK vs ∧ Rpk K G vs ds := by
  cases o with
  | dK vs => exact ⟨vs, rfl, h⟩
  | _ => exact h.elim
theorem RO.ins_inv {K : PySem.W.Frag} {G : Hp} {o : HO} {C dx : Addr} {ds : List (Str × D)} (h : RO K G o (.ins C dx ds)) : ∃ fs, o = .ins C dx fs ∧ Rpk K G fs ds := by
  cases o with
  | ins C' dx' fs =>
    obtain ⟨rfl, rfl, h⟩ := h
    exact ⟨fs, rfl, h⟩
  | _ => exact h.elim
theorem RO.raw_inv {K : PySem.W.Frag} {G : Hp} {o o' : HO} (h : RO K G o (.raw o')) : o = o' := by
  cases o <;> exact h.1

theorem RO.lam_inv {K : PySem.W.Frag} {G : Hp} {o o' : HO} {c : Addr} {q : Str} (h : RO K G o (.lam o' c q)) : o = o' ∧ G c = some (LamX.CodeO c q) := by
  cases o <;> exact ⟨h.1, h.2.2⟩

/-! ### tables of code objects: of the defs with generator expressions (their addresses), of those with lambdas (and the name) -/
def TabG (H : Hp) (P : Addr) : Prop := ∃ ps : Array Value, H P = some (.tbl ps) ∧ TriplesOk ps.toList
structure Tb where
  g : List Addr
  l : List (Addr × Str)
/-- the code objects in the tables are known for good -/
def Codes (l : List (Addr × Str)) (G H : Hp) : Prop := ∀ p ∈ l, ∀ ps : Array Value, H p.1 = some (.tbl ps) → ∀ (pos : Pos) (cv : Value), codeAmong pos ps.toList = some cv → ∃ c, cv = .ref c ∧ G c = some (LamX.CodeO c p.2)
def Tb.Ok (T : Tb) (G H : Hp) : Prop := (∀ P ∈ T.g, TabG H P) ∧ LamX.Tabs T.l H ∧ Codes T.l G H
theorem Tb.Ok.mono {T : Tb} {G G' H : Hp} (t : T.Ok G H) (le : ∀ b o, G b = some o → G' b = some o) : T.Ok G' H := ⟨t.1, t.2.1, fun p hp ps e pos cv hc => by
  obtain ⟨c, e1, e2⟩ := t.2.2 p hp ps e pos cv hc
  exact ⟨c, e1, le _ _ e2⟩⟩

/-- the abstract heap: G frozen, W owned, the tables -/
structure Hk (K : PySem.W.Frag) (T : Tb) (G : Hp) (W : OW) (H : Hp) : Prop where
  sub : Le G H
  ntb : ∀ a ps, G a ≠ some (.tbl ps)
  nod : (W.map (·.1)).Nodup
  own : ∀ p ∈ W, G p.1 = none ∧ ∃ o, H p.1 = some o ∧ RO K G o p.2
  tab : T.Ok G H

/-- from (G, W, H) to (G', W', H') -/
structure Step (K : PySem.W.Frag) (T : Tb) (G : Hp) (W : OW) (H : Hp) (G' : Hp) (W' : OW) (H' : Hp) : Prop where
  le : Le G G'
  fr : ∀ a o, G' a = some o → G a = some o ∨ H a = none ∨ a ∈ W.map (·.1)
  dm : ∀ a, a ∈ W'.map (·.1) → a ∈ W.map (·.1) ∨ H a = none
  ho : ∀ a o, H a = some o → a ∉ W.map (·.1) → (∀ ps, o ≠ .tbl ps) → H' a = some o
  th : ∀ a o, H a = some o → ∃ o', H' a = some o'
  hk : Hk K T G' W' H'

section
variable {K : PySem.W.Frag} {T : Tb} {G G1 G2 : Hp} {W W1 W2 : OW} {H H1 H2 : Hp}
theorem Step.refl (h : Hk K T G W H) : Step K T G W H G W H := ⟨Le.refl G, fun _ _ e => .inl e, fun _ e => .inl e, fun _ _ e _ _ => e, fun _ o e => ⟨o, e⟩, h⟩
theorem Step.back (s : Step K T G W H G1 W1 H1) {a : Addr} (h : H1 a = none) : H a = none := by
  cases e : H a with
  | none => rfl
  | some o =>
    obtain ⟨o', q⟩ := s.th a o e
    rw [q] at h
    cases h
theorem Step.trans (s : Step K T G W H G1 W1 H1) (t : Step K T G1 W1 H1 G2 W2 H2) : Step K T G W H G2 W2 H2 := by
  refine ⟨s.le.trans t.le, fun a o e => ?_, fun a e => ?_, fun a o e hn ht => ?_, fun a o e => ?_, t.hk⟩
  · rcases t.fr a o e with q | q | q
    · exact s.fr a o q
    · exact .inr (.inl (s.back q))
    · rcases s.dm a q with z | z
      · exact .inr (.inr z)
      · exact .inr (.inl z)
  · rcases t.dm a e with q | q
    · exact s.dm a q
    · exact .inr (s.back q)
  · refine t.ho a o (s.ho a o e hn ht) (fun z => ?_) ht
    rcases s.dm a z with q | q
    · exact hn q
    · rw [q] at e
      cases e
  · obtain ⟨o1, e1⟩ := s.th a o e
    exact t.th a o1 e1
theorem Hk.gn (h : Hk K T G W H) {a : Addr} (e : H a = none) : G a = none := by
  cases q : G a with
  | none => rfl
  | some o =>
    rw [h.sub a o q] at e
    cases e
theorem Hk.wn (h : Hk K T G W H) {a : Addr} (e : H a = none) : a ∉ W.map (·.1) := fun z => by
  obtain ⟨p, hp, rfl⟩ := List.mem_map.mp z
  obtain ⟨_, o, ho, _⟩ := h.own p hp
  rw [ho] at e
  cases e
/-- tables after a change that is none of theirs -/
theorem Tb.Ok.upd (t : T.Ok G H) {p : Addr} {o : HO} (hp : (∀ ps, H p ≠ some (.tbl ps)) ∧ ∀ c q, H p ≠ some (LamX.CodeO c q)) : T.Ok G (upd H p o) := by
  have ne : ∀ P ps, H P = some (.tbl ps) → P ≠ p := fun P ps e z => by
    subst z
    exact hp.1 ps e
  refine ⟨fun P hP => ?_, fun P hP => ?_, fun P hP ps e => ?_⟩
  · obtain ⟨ps, e, q⟩ := t.1 P hP
    exact ⟨ps, by rw [upd_ne (ne P ps e)]; exact e, q⟩
  rotate_left
  · obtain ⟨ps0, e0, _⟩ := t.2.1 P hP
    rw [upd_ne (ne _ ps0 e0)] at e
    exact t.2.2 P hP ps e
  · obtain ⟨ps, e, q, r⟩ := t.2.1 P hP
    refine ⟨ps, by rw [upd_ne (ne _ ps e)]; exact e, q, fun pos cv hc => ?_⟩
    obtain ⟨c, e1, e2⟩ := r pos cv hc
    refine ⟨c, e1, ?_⟩
    have nc : c ≠ p := fun z => by
      subst z
      exact hp.2 _ _ e2
    rw [upd_ne nc]
    exact e2
/-- a new frozen object -/
theorem Hk.alloc (h : Hk K T G W H) {p : Addr} {o : HO} (hp : H p = none) (ht : ∀ ps, o ≠ .tbl ps) : Step K T G W H (upd G p o) W (upd H p o) := by
  have gp := h.gn hp
  have le : Le G (upd G p o) := fun a u e => by
    rw [upd_ne (ne_of_none e gp)]
    exact e
  refine ⟨le, fun a u e => ?_, fun _ e => .inl e, fun a u e _ _ => ?_, fun a u e => ⟨u, ?_⟩, fun a u e => ?_, fun a ps e => ?_, h.nod, fun q hq => ?_, (h.tab.mono le).upd ⟨fun ps e => ?_, fun c q e => ?_⟩⟩
  · by_cases ha : a = p
    · subst ha
      exact .inr (.inl hp)
    · rw [upd_ne ha] at e
      exact .inl e
  · rw [upd_ne (ne_of_none e hp)]
    exact e
  · rw [upd_ne (ne_of_none e hp)]
    exact e
  · by_cases ha : a = p
    · subst ha
      rw [upd_same] at e ⊢
      exact e
    · rw [upd_ne ha] at e ⊢
      exact h.sub a u e
  · by_cases ha : a = p
    · subst ha
      rw [upd_same] at e
      cases e
      exact ht ps rfl
    · rw [upd_ne ha] at e
      exact h.ntb a ps e
  · obtain ⟨g0, u, e, r⟩ := h.own q hq
    have nq : q.1 ≠ p := ne_of_none e hp
    exact ⟨by rw [upd_ne nq]; exact g0, u, by rw [upd_ne nq]; exact e, r.mono le⟩
  · rw [hp] at e
    cases e
  · rw [hp] at e
    cases e
/-- a new owned object -/
theorem Hk.allocO (h : Hk K T G W H) {p : Addr} {o : HO} {w : AO} (hp : H p = none) (r : RO K G o w) : Step K T G W H G ((p, w) :: W) (upd H p o) := by
  have gp := h.gn hp
  have wp := h.wn hp
  refine ⟨Le.refl G, fun _ _ e => .inl e, fun a e => ?_, fun a u e _ _ => ?_, fun a u e => ⟨u, ?_⟩, fun a u e => ?_, h.ntb, ?_, fun q hq => ?_, h.tab.upd ⟨fun ps e => ?_, fun c q e => ?_⟩⟩
  · rw [List.map_cons, List.mem_cons] at e
    rcases e with e | e
    · have e' : a = p := e
      rw [e']
      exact .inr hp
    · exact .inl e
  · rw [upd_ne (ne_of_none e hp)]
    exact e
  · rw [upd_ne (ne_of_none e hp)]
    exact e
  · rw [upd_ne (ne_of_none (h.sub a u e) hp)]
    exact h.sub a u e
  · rw [List.map_cons, List.nodup_cons]
    exact ⟨wp, h.nod⟩
  · rcases List.mem_cons.mp hq with e | hq
    · subst e
      exact ⟨gp, o, upd_same, r⟩
    · obtain ⟨g0, u, e, r'⟩ := h.own q hq
      exact ⟨g0, u, by rw [upd_ne (ne_of_none e hp)]; exact e, r'⟩
  · rw [hp] at e
    cases e
  · rw [hp] at e
    cases e
/-- an owned object changes -/
theorem Hk.write (h : Hk K T G W H) {i : Nat} {a : Addr} {w w' : AO} {o' : HO} (hi : W[i]? = some (a, w)) (r : RO K G o' w') (hx : ∀ c q, H a ≠ some (LamX.CodeO c q)) : Step K T G W H G (W.set i (a, w')) (upd H a o') := by
  have hm : (a, w) ∈ W := List.mem_of_getElem? hi
  have ha : a ∈ W.map (·.1) := List.mem_map.mpr ⟨_, hm, rfl⟩
  obtain ⟨g0, o, e0, r0⟩ := h.own _ hm
  have hil : i < W.length := (List.getElem?_eq_some_iff.mp hi).1
  have hmap : (W.set i (a, w')).map (·.1) = W.map (·.1) := by
    rw [List.map_set]
    refine List.ext_getElem? fun j => ?_
    by_cases hj : i = j
    · subst hj
      rw [List.getElem?_set_self (by rw [List.length_map]; exact hil), List.getElem?_map, hi]
      rfl
    · rw [List.getElem?_set_ne hj]
  refine ⟨Le.refl G, fun _ _ e => .inl e, fun b e => ?_, fun b u e hn _ => ?_, fun b u e => ?_, fun b u e => ?_, h.ntb, ?_, fun q hq => ?_, h.tab.upd ⟨fun ps e => ?_, hx⟩⟩
  · rw [hmap] at e
    exact .inl e
  · have nb : b ≠ a := fun z => by
      subst z
      exact hn ha
    rw [upd_ne nb]
    exact e
  · by_cases hb : b = a
    · subst hb
      exact ⟨o', upd_same⟩
    · exact ⟨u, by rw [upd_ne hb]; exact e⟩
  · have nb : b ≠ a := ne_of_none e g0
    rw [upd_ne nb]
    exact h.sub b u e
  · rw [hmap]
    exact h.nod
  · by_cases hq1 : q.1 = a
    · have hq2 : q = (a, w') := by
        obtain ⟨j, hj, ej⟩ := List.getElem_of_mem hq
        rw [List.length_set] at hj
        by_cases hji : i = j
        · subst hji
          rw [List.getElem_set_self] at ej
          exact ej.symm
        · exfalso
          rw [List.getElem_set_ne hji] at ej
          have n1 : (W.map (·.1))[i]? = some a := by
            rw [List.getElem?_map, hi]
            rfl
          have n2 : (W.map (·.1))[j]? = some a := by
            rw [List.getElem?_map, List.getElem?_eq_getElem hj, ej, ← hq1]
            rfl
          exact hji (nd_ix h.nod n1 n2)
      subst hq2
      exact ⟨g0, o', upd_same, r⟩
    · have hq3 : q ∈ W := by
        rcases List.mem_or_eq_of_mem_set hq with z | z
        · exact z
        · exact absurd (by rw [z]) hq1
      obtain ⟨g1, u, e, r1⟩ := h.own q hq3
      exact ⟨g1, u, by rw [upd_ne hq1]; exact e, r1⟩
  · rw [e0] at e
    exact r0.ntb ps (Option.some.inj e)
/-- fewer are known as owned -/
theorem Hk.less (h : Hk K T G W H) (hs : W1.Sublist W) : Hk K T G W1 H :=
  ⟨h.sub, h.ntb, h.nod.sublist (hs.map _), fun p hp => h.own p (hs.subset hp), h.tab⟩
/-- an owned list is frozen -/
theorem Hk.freeze (h : Hk K T G W H) {i : Nat} {a : Addr} {w : AO} (hi : W[i]? = some (a, w)) : ∃ o, H a = some o ∧ RO K G o w ∧ Step K T G W H (upd G a o) (W.eraseIdx i) H := by
  have hm : (a, w) ∈ W := List.mem_of_getElem? hi
  obtain ⟨g0, o, e0, r0⟩ := h.own _ hm
  have le : Le G (upd G a o) := fun b u e => by
    rw [upd_ne (ne_of_none e g0)]
    exact e
  have hsub : (W.eraseIdx i).Sublist W := List.eraseIdx_sublist W i
  have na : a ∉ (W.eraseIdx i).map (·.1) := fun z => by
    obtain ⟨p, hp, ep⟩ := List.mem_map.mp z
    obtain ⟨j, hj1, hj2, ej⟩ := List.mem_eraseIdx_iff_getElem.mp hp
    have n1 : (W.map (·.1))[i]? = some a := by
      rw [List.getElem?_map, hi]
      rfl
    have n2 : (W.map (·.1))[j]? = some a := by
      rw [List.getElem?_map, List.getElem?_eq_getElem hj1, ej, ← ep]
      rfl
    exact hj2 (nd_ix h.nod n2 n1)
  refine ⟨o, e0, r0, le, fun b u e => ?_, fun b e => .inl ((hsub.map _).subset e), fun _ _ e _ _ => e, fun b u e => ⟨u, e⟩, fun b u e => ?_, fun b ps e => ?_, h.nod.sublist (hsub.map _), fun q hq => ?_, h.tab.mono le⟩
  · by_cases hb : b = a
    · subst hb
      exact .inr (.inr (List.mem_map.mpr ⟨_, hm, rfl⟩))
    · rw [upd_ne hb] at e
      exact .inl e
  · by_cases hb : b = a
    · subst hb
      rw [upd_same] at e
      cases e
      exact e0
    · rw [upd_ne hb] at e
      exact h.sub b u e
  · by_cases hb : b = a
    · subst hb
      rw [upd_same] at e
      exact r0.ntb ps (Option.some.inj e)
    · rw [upd_ne hb] at e
      exact h.ntb b ps e
  · obtain ⟨g1, u, e, r1⟩ := h.own q (hsub.subset hq)
    have nq : q.1 ≠ a := fun z => na (z ▸ List.mem_map.mpr ⟨q, hq, rfl⟩)
    exact ⟨by rw [upd_ne nq]; exact g1, u, e, r1.mono le⟩
/-- a callee knew but W; what else is owned stands -/
theorem Step.more (h : Hk K T G (W ++ W2) H) (s : Step K T G W H G1 W1 H1) : Step K T G (W ++ W2) H G1 (W1 ++ W2) H1 := by
  have nod := h.nod
  rw [List.map_append] at nod
  have dis : ∀ a, a ∈ W2.map (·.1) → a ∉ W.map (·.1) := fun a h2 h1 => (List.nodup_append.mp nod).2.2 a h1 a h2 rfl
  have own2 : ∀ q ∈ W2, G q.1 = none ∧ ∃ o, H q.1 = some o ∧ RO K G o q.2 := fun q hq => h.own q (List.mem_append_right _ hq)
  have nn : ∀ a, a ∈ W2.map (·.1) → H a ≠ none := fun a ha e => by
    obtain ⟨q, hq, rfl⟩ := List.mem_map.mp ha
    obtain ⟨_, o, e1, _⟩ := own2 q hq
    rw [e1] at e
    cases e
  refine ⟨s.le, fun a o e => ?_, fun a e => ?_, fun a o e hn ht => ?_, s.th, s.hk.sub, s.hk.ntb, ?_, fun q hq => ?_, s.hk.tab⟩
  · rcases s.fr a o e with z | z | z
    · exact .inl z
    · exact .inr (.inl z)
    · exact .inr (.inr (by rw [List.map_append]; exact List.mem_append_left _ z))
  · rw [List.map_append, List.mem_append] at e
    rcases e with e | e
    · rcases s.dm a e with z | z
      · exact .inl (by rw [List.map_append]; exact List.mem_append_left _ z)
      · exact .inr z
    · exact .inl (by rw [List.map_append]; exact List.mem_append_right _ e)
  · exact s.ho a o e (fun z => hn (by rw [List.map_append]; exact List.mem_append_left _ z)) ht
  · rw [List.map_append]
    refine List.nodup_append.mpr ⟨s.hk.nod, (List.nodup_append.mp nod).2.1, fun a h1 b h2 e => ?_⟩
    subst e
    rcases s.dm a h1 with z | z
    · exact dis a h2 z
    · exact nn a h2 z
  · rcases List.mem_append.mp hq with hq | hq
    · exact s.hk.own q hq
    · obtain ⟨g0, o, e, r⟩ := own2 q hq
      have hqm : q.1 ∈ W2.map (·.1) := List.mem_map.mpr ⟨q, hq, rfl⟩
      refine ⟨?_, o, s.ho q.1 o e (dis _ hqm) r.ntb, r.mono s.le⟩
      cases z : G1 q.1 with
      | none => rfl
      | some u =>
        rcases s.fr q.1 u z with y | y | y
        · rw [g0] at y
          cases y
        · exact absurd y (nn _ hqm)
        · exact absurd y (dis _ hqm)
/-- what is owned, in another order -/
theorem Hk.perm (h : Hk K T G W H) (p : W.Perm W1) : Hk K T G W1 H :=
  ⟨h.sub, h.ntb, (p.map _).nodup_iff.mp h.nod, fun q hq => h.own q (p.mem_iff.mpr hq), h.tab⟩
theorem Step.perm (s : Step K T G W H G1 W1 H1) (p : W.Perm W2) {W3 : OW} (q : W1.Perm W3) : Step K T G W2 H G1 W3 H1 := by
  have e : ∀ a, a ∈ W.map (·.1) ↔ a ∈ W2.map (·.1) := fun a => (p.map _).mem_iff
  have e3 : ∀ a, a ∈ W1.map (·.1) ↔ a ∈ W3.map (·.1) := fun a => (q.map _).mem_iff
  refine ⟨s.le, fun a o h => ?_, fun a h => ?_, fun a o h hn ht => s.ho a o h (fun z => hn ((e a).mp z)) ht, s.th, s.hk.perm q⟩
  · rcases s.fr a o h with z | z | z
    · exact .inl z
    · exact .inr (.inl z)
    · exact .inr (.inr ((e a).mp z))
  · rcases s.dm a ((e3 a).mpr h) with z | z
    · exact .inl ((e a).mp z)
    · exact .inr z
/-- what is owned behind: some is forgotten -/
theorem Step.drop (s : Step K T G W H G1 W1 H1) (hs : W2.Sublist W1) : Step K T G W H G1 W2 H1 :=
  ⟨s.le, s.fr, fun a h => s.dm a ((hs.map _).subset h), s.ho, s.th, s.hk.less hs⟩
end
end Sh
set_option Elab.async false
set_option linter.all false
set_option maxRecDepth 100000
set_option maxHeartbeats 1000000
set_option autoImplicit false
/-! ShL: rules of operations that the layer lacks: tuples whose objects are known (they have no dict of their own), slices with steps. -/
namespace StepS
open PySem PySem.Spec PyProof.Rows L2
open HT (sIx)
/-- xs[a::c] -/
def strided {α : Type} (xs : List α) (a c : Nat) : List α := (List.range ((xs.length - a + c - 1) / c)).filterMap fun m => xs[a + m * c]?
/-- the picks of a list's slice with a step -/
def pickL {α : Type} (xs : List α) (lo hi st : Option Int) : List α := (sliceRange (sliceBounds lo hi st xs.length).1 (sliceBounds lo hi st xs.length).2.1 (sliceBounds lo hi st xs.length).2.2).filterMap (xs[·]?)
/-- .. of a tuple's -/
def pickT {α : Type} (xs : List α) (lo hi : Option Int) (c : Int) : List α := (List.range (Builtin.Slice.slicePlaces (Builtin.Slice.sliceAdjust lo hi c xs.length).1 (Builtin.Slice.sliceAdjust lo hi c xs.length).2 c)).filterMap fun (m : Nat) => xs[((Builtin.Slice.sliceAdjust lo hi c xs.length).1 + (m : Int) * c).toNat]?
/-- a pick by places -/
theorem vals_pick {xs : List V} {us : List Value} (r : Vals xs us) : ∀ l : List Nat, Vals (l.filterMap (xs[·]?)) (l.filterMap (us[·]?))
  | [] => .nil
  | i :: l => by
    rw [List.filterMap_cons, List.filterMap_cons]
    cases e : xs[i]? with
    | none =>
      rw [r.none_of e]
      exact vals_pick r l
    | some x =>
      obtain ⟨u, e2, q⟩ := r.get e
      rw [e2]
      exact .cons q (vals_pick r l)
theorem pick_length {α : Type} (xs : List α) : ∀ l : List Nat, (l.filterMap (xs[·]?)).length ≤ l.length := fun l => List.length_filterMap_le _ _
theorem range_map {α : Type} (xs : List α) (n : Nat) (g : Nat → Nat) : ((List.range n).map g).filterMap (xs[·]?) = (List.range n).filterMap fun m => xs[g m]? := by rw [List.filterMap_map]; rfl
theorem strided_eq {α : Type} (xs : List α) (a c n : Nat) (h : n = (xs.length - min a xs.length + c - 1) / c) (hc : 0 < c) : ((List.range n).filterMap fun m => xs[min a xs.length + m * c]?) = strided xs a c := by
  unfold strided
  by_cases ha : a ≤ xs.length
  · rw [Nat.min_eq_left ha] at h ⊢
    rw [h]
  · have e1 : min a xs.length = xs.length := Nat.min_eq_right (by omega)
    rw [e1, Nat.sub_self, Nat.zero_add] at h
    have e2 : xs.length - a = 0 := by omega
    rw [e2, Nat.zero_add, h, e1, Nat.div_eq_of_lt (by omega)]
    rfl
theorem pickL_from {α : Type} (xs : List α) (a c : Nat) (hc : 0 < c) : pickL xs (some (a : Int)) none (some (c : Int)) = strided xs a c := by
  have hb : sliceBounds (some (a : Int)) none (some (c : Int)) xs.length = (((min a xs.length : Nat) : Int), ((xs.length : Nat) : Int), (c : Int)) := by
    simp only [sliceBounds, Option.getD_some, show (c : Int) > 0 by omega, if_true, if_neg (show ¬ ((a : Int) < 0) by omega)]
    congr 1
    omega
  unfold pickL
  rw [hb]
  unfold sliceRange
  simp only [show (c : Int) > 0 by omega, if_true]
  rw [range_map]
  have e : (fun m : Nat => xs[(((min a xs.length : Nat) : Int) + (c : Int) * (m : Int)).toNat]?) = fun m => xs[min a xs.length + m * c]? := by
    funext m
    have : (((min a xs.length : Nat) : Int) + (c : Int) * (m : Int)).toNat = min a xs.length + m * c := by
      have : ((min a xs.length : Nat) : Int) + (c : Int) * (m : Int) = ((min a xs.length + m * c : Nat) : Int) := by
        rw [Int.natCast_add, Int.natCast_mul, Int.mul_comm]
      rw [this]
      rfl
    rw [this]
  rw [e]
  refine strided_eq xs a c _ ?_ hc
  by_cases hlt : ((min a xs.length : Nat) : Int) < (xs.length : Int)
  · rw [if_pos hlt]
    have : (xs.length : Int) - ((min a xs.length : Nat) : Int) + (c : Int) - 1 = ((xs.length - min a xs.length + c - 1 : Nat) : Int) := by omega
    rw [this]
    have : ((xs.length - min a xs.length + c - 1 : Nat) : Int) / (c : Int) = (((xs.length - min a xs.length + c - 1) / c : Nat) : Int) := rfl
    rw [this]
    rfl
  · rw [if_neg hlt]
    have : xs.length - min a xs.length + c - 1 < c := by omega
    rw [Nat.div_eq_of_lt this]
    rfl
theorem pickT_from {α : Type} (xs : List α) (a c : Nat) (hc : 0 < c) : pickT xs (some (a : Int)) none (c : Int) = strided xs a c := by
  have hb : Builtin.Slice.sliceAdjust (some (a : Int)) none (c : Int) xs.length = (((min a xs.length : Nat) : Int), ((xs.length : Nat) : Int)) := by
    unfold Builtin.Slice.sliceAdjust
    simp only [if_neg (show ¬ ((c : Int) < 0) by omega), if_neg (show ¬ ((a : Int) < 0) by omega)]
    congr 1
    omega
  unfold pickT
  rw [hb]
  have e : (fun m : Nat => xs[(((min a xs.length : Nat) : Int) + (m : Int) * (c : Int)).toNat]?) = fun m => xs[min a xs.length + m * c]? := by
    funext m
    have : (((min a xs.length : Nat) : Int) + (m : Int) * (c : Int)) = ((min a xs.length + m * c : Nat) : Int) := by
      rw [Int.natCast_add, Int.natCast_mul]
    show xs[(((min a xs.length : Nat) : Int) + (m : Int) * (c : Int)).toNat]? = _
    rw [this]
    rfl
  simp only
  rw [e]
  refine strided_eq xs a c _ ?_ hc
  unfold Builtin.Slice.slicePlaces
  rw [if_pos (by omega)]
  by_cases hlt : ((min a xs.length : Nat) : Int) < (xs.length : Int)
  · rw [if_pos hlt]
    have e1 : (xs.length : Int) - ((min a xs.length : Nat) : Int) - 1 = ((xs.length - min a xs.length - 1 : Nat) : Int) := by omega
    rw [e1]
    have e2 : ((xs.length - min a xs.length - 1 : Nat) : Int) / (c : Int) + 1 = (((xs.length - min a xs.length - 1) / c + 1 : Nat) : Int) := rfl
    rw [e2]
    show (xs.length - min a xs.length - 1) / c + 1 = _
    have h1 : xs.length - min a xs.length + c - 1 = (xs.length - min a xs.length - 1) + c := by omega
    rw [h1, Nat.add_div_right _ hc]
  · rw [if_neg hlt]
    have : xs.length - min a xs.length + c - 1 < c := by omega
    rw [Nat.div_eq_of_lt this]
    rfl
theorem filterMap_same {α β : Type} {f g : α → Option β} : ∀ {l : List α}, (∀ a ∈ l, f a = g a) → l.filterMap f = l.filterMap g
  | [], _ => rfl
  | a :: l, h => by
    rw [List.filterMap_cons, List.filterMap_cons, h a List.mem_cons_self, filterMap_same fun b hb => h b (List.mem_cons_of_mem _ hb)]
theorem range_rev {α : Type} (xs : List α) : ((List.range xs.length).filterMap fun m => xs[xs.length - 1 - m]?) = xs.reverse := by
  have e : ∀ n, n ≤ xs.length → ((List.range n).filterMap fun m => xs[xs.length - 1 - m]?) = xs.reverse.take n := by
    intro n
    induction n with
    | zero => intro _; rfl
    | succ n ih =>
      intro h
      rw [List.range_succ, List.filterMap_append, ih (by omega), List.take_succ, List.getElem?_reverse (by omega)]
      congr 1
  rw [e _ (Nat.le_refl _), List.take_of_length_le (by rw [List.length_reverse]; exact Nat.le_refl _)]
theorem pickL_rev {α : Type} (xs : List α) : pickL xs none none (some (-1)) = xs.reverse := by
  have hb : sliceBounds none none (some (-1)) xs.length = ((xs.length : Int) - 1, -1, -1) := by
    simp [sliceBounds]
  unfold pickL
  rw [hb]
  unfold sliceRange
  simp only
  rw [if_neg (by decide)]
  rw [range_map]
  have hn : (if ((xs.length : Int) - 1 > -1) then ((xs.length : Int) - 1 - -1 - -1 - 1) / (- -1) else 0).toNat = xs.length := by
    rw [show (- -1 : Int) = 1 by decide, Int.ediv_one]
    split <;> omega
  rw [hn]
  rw [← range_rev xs]
  refine filterMap_same fun m hm => ?_
  have : m < xs.length := List.mem_range.mp hm
  have e : ((xs.length : Int) - 1 + -1 * (m : Int)).toNat = xs.length - 1 - m := by omega
  rw [e]
theorem pickT_rev {α : Type} (xs : List α) : pickT xs none none (-1) = xs.reverse := by
  have hb : Builtin.Slice.sliceAdjust none none (-1) xs.length = ((xs.length : Int) - 1, -1) := by
    unfold Builtin.Slice.sliceAdjust
    rfl
  unfold pickT
  rw [hb]
  have hn : Builtin.Slice.slicePlaces ((xs.length : Int) - 1) (-1) (-1) = xs.length := by
    unfold Builtin.Slice.slicePlaces
    rw [if_neg (by decide), show (- -1 : Int) = 1 by decide, Int.ediv_one]
    split <;> omega
  show (List.range (Builtin.Slice.slicePlaces ((xs.length : Int) - 1) (-1) (-1))).filterMap _ = _
  rw [hn, ← range_rev xs]
  refine filterMap_same fun m hm => ?_
  have : m < xs.length := List.mem_range.mp hm
  have e : ((xs.length : Int) - 1 + (m : Int) * -1).toNat = xs.length - 1 - m := by omega
  show xs[((xs.length : Int) - 1 + (m : Int) * -1).toNat]? = _
  rw [e]
section
variable {prog : Program} {w : World} {A : Around} {E : Value → Shared → Prop} {s : Shared}
theorem sliceApplied_st {sl : Addr} {vl vu vs : Value} {lo hi : Option Int} {c : Int} {n : Nat} {Q : Int × Int × Nat → Shared → Prop} (hs : s.heap.IsSliceOf sl vl vu vs) (pl : IsPart vl lo) (pu : IsPart vu hi) (ps : IsPart vs (some c)) (h0 : c ≠ 0)
    (h : Q ((Builtin.Slice.sliceAdjust lo hi c n).1, c, Builtin.Slice.slicePlaces (Builtin.Slice.sliceAdjust lo hi c n).1 (Builtin.Slice.sliceAdjust lo hi c n).2 c) s) : wpAny (model prog w) A (Builtin.Slice.sliceApplied (.ref sl) (pure (n : Int))) Q E s := by
  obtain ⟨os, hos, hcs, hds⟩ := id hs
  unfold Builtin.Slice.sliceApplied Builtin.Slice.sliceFields
  refine wpAny_bind (wpAny_bind (wpAny_field hos hds (x := vl) rfl (wpAny_bind (wpAny_field hos hds (x := vu) rfl (wpAny_bind (wpAny_field hos hds (x := vs) rfl (wpAny_pure ?_)))))))
  refine wpAny_bind (HT.slicePart_ ps ?_)
  show wpAny _ _ (if (c == 0) = true then _ else _) _ _ s
  rw [if_neg (by simpa using h0)]
  refine wpAny_bind (HT.slicePart_ pl (wpAny_bind (HT.slicePart_ pu (wpAny_bind (wpAny_pure ?_)))))
  exact wpAny_pure h
theorem getItem_tuple_step {t sl : Addr} {items : Array Value} {vl vu vs : Value} {lo hi : Option Int} {c : Int} {Q : Value → Shared → Prop} (ht : IsTup s.heap t items) (hs : s.heap.IsSliceOf sl vl vu vs) (pl : IsPart vl lo) (pu : IsPart vu hi) (ps : IsPart vs (some c)) (h0 : c ≠ 0)
    (h1 : ((Builtin.Slice.sliceAdjust lo hi c items.size).1 == 0 && c == 1 && (Builtin.Slice.slicePlaces (Builtin.Slice.sliceAdjust lo hi c items.size).1 (Builtin.Slice.sliceAdjust lo hi c items.size).2 c) == items.size) = true → Q (.ref t) s)
    (h2 : ((Builtin.Slice.sliceAdjust lo hi c items.size).1 == 0 && c == 1 && (Builtin.Slice.slicePlaces (Builtin.Slice.sliceAdjust lo hi c items.size).1 (Builtin.Slice.sliceAdjust lo hi c items.size).2 c) == items.size) = false →
      Q (.ref s.heap.objs.size) { s with heap := s.heap.push { cls := .type "tuple", data := .seq (pickT items.toList lo hi c).toArray } })
    (hsz : (pickT items.toList lo hi c).length ≤ sizeLine) : wpAny (model prog w) A (getItem (.ref t) (.ref sl)) Q E s := by
  obtain ⟨os, hos, hcs, hds⟩ := id hs
  have hTs : s.TypeIs (.ref sl) "slice" := ⟨os, hos, hcs⟩
  have hpk : ((List.range (Builtin.Slice.slicePlaces (Builtin.Slice.sliceAdjust lo hi c items.size).1 (Builtin.Slice.sliceAdjust lo hi c items.size).2 c)).filterMap fun (m : Nat) => items[((Builtin.Slice.sliceAdjust lo hi c items.size).1 + (m : Int) * c).toNat]?).toArray = (pickT items.toList lo hi c).toArray := by
    unfold pickT
    rw [Array.length_toList]
    simp only [Array.getElem?_toList]
  unfold getItem
  try with_reducible refine wpAny_holding ?_
  first | refine wpAny_bind (wpAny_pure ?_) | skip
  refine wpAny_bind (wpAny_sequenceKey ht.typeIs (by decide) ?_)
  refine wpAny_bind (wpAny_callSpecial?_slot (name := Str.ofString "__getitem__") ht.typeIs PyProof.Rows.slot_tuple_getitem
    (wpAny_call_entry PyProof.Rows.slot_tuple_getitem ht.typeIs entry_tuple_getitem ?_ (args_tuple_getitem _ _)))
  show wpAny _ _ (Builtin.Tuple.tupleItemsOf (.ref t) >>= _) _ _ s
  refine wpAny_bind (tupleItemsOf_ ht ?_)
  refine wpAny_bind (wpAny_typeOf hTs ?_)
  rw [if_pos (by decide)]
  refine wpAny_bind (sliceApplied_st hs pl pu ps h0 ?_)
  show wpAny _ _ (if ((Builtin.Slice.sliceAdjust lo hi c items.size).1 == 0 && c == 1 && (Builtin.Slice.slicePlaces (Builtin.Slice.sliceAdjust lo hi c items.size).1 (Builtin.Slice.sliceAdjust lo hi c items.size).2 c) == items.size) = true then _ else _) _ _ s
  cases hb : ((Builtin.Slice.sliceAdjust lo hi c items.size).1 == 0 && c == 1 && (Builtin.Slice.slicePlaces (Builtin.Slice.sliceAdjust lo hi c items.size).1 (Builtin.Slice.sliceAdjust lo hi c items.size).2 c) == items.size) with
  | true =>
    rw [if_pos rfl]
    refine wpAny_bind ?_
    show wpAny _ _ (typeOf (.ref t) >>= fun T => pure (T == .type "tuple")) _ _ s
    refine wpAny_bind (wpAny_typeOf ht.typeIs (wpAny_pure ?_))
    first
      | rw [if_pos (by decide)]
      | simp only [beq_self_eq_true, if_true]
    first
      | exact wpAny_bind (wpAny_rule (wpAny_pure ⟨_, rfl, wpAny_pure (h1 hb)⟩))
      | exact wpAny_bind (wpAny_rule (wpAny_bind (wpAny_pure (wpAny_pure ⟨_, rfl, wpAny_pure (h1 hb)⟩))))
  | false =>
    rw [if_neg Bool.false_ne_true, hpk]
    have htake : sizeOk (.seq (pickT items.toList lo hi c).toArray) := by
      show (pickT items.toList lo hi c).toArray.size ≤ sizeLine
      rw [List.size_toArray]
      exact hsz
    have h := h2 hb
    first
      | exact wpAny_bind (m := Builtin.Tuple.tupleExact _) (wpAny_newObj_type (wpAny_pure ⟨_, rfl, wpAny_pure h⟩) htake)
      | exact wpAny_bind (m := Builtin.Tuple.tupleExact _) (wpAny_newObj_type (wpAny_bind (wpAny_pure (wpAny_pure ⟨_, rfl, wpAny_pure h⟩))) htake)
      | exact wpAny_bind (wpAny_bind (m := Builtin.Tuple.tupleExact _) (wpAny_newObj_type (wpAny_pure (wpAny_pure ⟨_, rfl, wpAny_pure h⟩)) htake))
      | exact wpAny_bind (wpAny_bind (m := Builtin.Tuple.tupleExact _) (wpAny_newObj_type (wpAny_pure ⟨_, rfl, wpAny_pure h⟩) htake))
end

/-! ### over the layer -/
/-- a tuple's object -/
def TupO (o : Obj) : Prop := o.cls = .type "tuple" ∧ o.dict = none
theorem laidT {X : Cx} {pins : List (Addr × Obj)} {σ : L2.St} {H : Hp} {s : Shared} {xs : List V} {its : List Value} (I : Inv X pins σ H s) (r : Vals xs its) (hz : xs.length ≤ sizeLine) :
    Inv X pins σ (upd H s.heap.objs.size (.frz { cls := .type "tuple", data := .seq its.toArray } (.tup xs))) { s with heap := s.heap.push { cls := .type "tuple", data := .seq its.toArray } } :=
  I.laid (t' := s.toks) (fun b o e => Heap.get?_push_of_some _ e) (Nat.le_refl _) (show ObjOk X.prog X.w _ _ _ (.frz _ (.tup xs)) from ⟨Heap.get?_push_size _ rfl, hz, its, r, IsTup.new _ _⟩)
/-- what is wanted of a new tuple -/
def NewT (xs : List V) (H : Hp) (Q : VK) : Prop := ∀ p o, H p = none → TupO o → Q (.ref p) (upd H p (.frz o (.tup xs)))
theorem NewT.go {X : Cx} {pins : List (Addr × Obj)} {σ : L2.St} {H : Hp} {s : Shared} {xs : List V} {its : List Value} {Q : VK} (q : NewT xs H Q) (I : Inv X pins σ H s) (r : Vals xs its) (hz : xs.length ≤ sizeLine) :
    EP X pins σ Q (.ref s.heap.objs.size) { s with heap := s.heap.push { cls := .type "tuple", data := .seq its.toArray } } :=
  ⟨.ref s.heap.objs.size, _, laidT I r hz, rfl, q _ _ (I.hok.fresh (Nat.le_refl _)) ⟨rfl, rfl⟩⟩
section
variable {X : Cx} {es : List Expr} {t : TA} {pos : Pos}
def tTupF (t : TA) : TE := fun σ H Q => t σ H fun xs H1 => xs.length ≤ sizeLine ∧ NewT xs H1 Q
theorem pe_tupF {n : Nat} (h : PA X es t) : PE X (.Tuple es n pos) (tTupF t) :=
  ⟨fun pins s σ H Q I hq => wpAny_Tuple_spliced (thn (h.run pos pins s σ H _ I hq) fun us s1 ⟨xs, H1, I1, r, z, q⟩ => ⟨by rw [← r.length]; exact z, q.go I1 r z⟩)⟩
def rCatF (K : PySem.W.Frag) : R2 := fun x y H Q => ∃ a b xs ys, x = .ref a ∧ y = .ref b ∧ SqT K H a xs ∧ SqT K H b ys ∧ xs.length + ys.length ≤ sizeLine ∧ (xs = [] → Q (.ref b) H) ∧ (xs ≠ [] → ys = [] → Q (.ref a) H) ∧ (xs ≠ [] → ys ≠ [] → NewT (xs ++ ys) H Q)
theorem op_catF : OpR X (binaryOp .Add) (rCatF X.K) := by
  rintro pins s σ H _ _ v u Q I rx ry ⟨a, b, xs, ys, rfl, rfl, ha, hb, hz, q0, q1, q2⟩
  cases rx
  cases ry
  obtain ⟨its, r1, p1, _⟩ := I.tuple ha
  obtain ⟨its2, r2, p2, _⟩ := I.tuple hb
  by_cases hx : xs = []
  · subst hx
    cases r1
    exact cat_tup0 p1 p2 ⟨.ref b, H, I, rfl, q0 rfl⟩
  · refine HT.cat_tup p1 p2 (fun z => hx (r1.nil_iff.mp z)) (fun z => ⟨.ref a, H, I, rfl, q1 hx (r2.nil_iff.mp z)⟩) (fun z => ?_) (by rw [← r1.length, ← r2.length]; exact hz)
    exact (q2 hx fun w => z (r2.nil_iff.mpr w)).go I (r1.append r2) (by rw [List.length_append]; exact hz)
def rSlF (K : PySem.W.Frag) : V → Option Int → Option Int → Hp → VK → Prop := fun x lo hi H Q => ∃ a xs, x = .ref a ∧ SqT K H a xs ∧
  (sIx xs.length 0 lo = 0 ∧ sIx xs.length xs.length hi = xs.length → Q (.ref a) H) ∧ (¬ (sIx xs.length 0 lo = 0 ∧ sIx xs.length xs.length hi = xs.length) → NewT (cutV xs lo hi) H Q)
theorem sl_tupF : SlR X (rSlF X.K) := by
  rintro pins s σ H _ v vl vu lo hi sl Q I rx hs pl pu ⟨a, xs, rfl, hx, q1, q2⟩
  cases rx
  obtain ⟨its, r, ht, hz⟩ := I.tuple hx
  have hlen : its.toArray.size = xs.length := by rw [List.size_toArray]; exact r.length.symm
  refine ⟨"tuple", _, PyProof.Rows.slot_tuple_getitem.lookup, ht.typeIs, ?_⟩
  by_cases hw : sIx xs.length 0 lo = 0 ∧ sIx xs.length xs.length hi = xs.length
  · exact getItem_tuple_whole ht hs pl pu (by rw [hlen]; exact hw) ⟨.ref a, H, I, rfl, q1 hw⟩
  · refine HT.getItem_tuple_cut ht hs pl pu (by rw [hlen]; exact hw) ?_ (by rw [hlen]; exact hz)
    rw [hlen]
    exact (q2 hw).go I ((r.drop _).take _) (Nat.le_trans (cutV_length xs lo hi) hz)
def rTupF (K : PySem.W.Frag) : List V → Hp → VK → Prop := fun xs H Q => ∃ p ys, xs = [.ref p] ∧ ((SqL K H p ys ∧ NewT ys H Q) ∨ (SqT K H p ys ∧ Q (.ref p) H))
theorem call_tupF : CallR X (.type "tuple") (rTupF X.K) := by
  rintro pins s σ H _ us Q I r ⟨p, ys, rfl, h⟩
  obtain ⟨u, rfl, rx⟩ := vals1 r
  cases rx
  rcases h with ⟨hq, q⟩ | ⟨hq, q⟩
  · obtain ⟨its, r', pl, hz⟩ := I.list hq
    have hlen := r'.length
    refine call_tuple_list pl.isList (fun h' kp => ?_) (by simp only [List.size_toArray] <;> omega)
    exact q.go (s := { s with heap := h' }) (I.kept (t' := s.toks) kp) r' hz
  · obtain ⟨its, r', pl, hz⟩ := I.tuple hq
    exact call_tuple_same pl ⟨.ref p, H, I, rfl, q⟩
end
/-- o[lo:hi:st], o a list -/
def tStL (K : PySem.W.Frag) (to : TE) (tl th ts : TO) : TE := fun σ H Q => to σ H fun x H1 => tl σ H1 fun lo H2 => th σ H2 fun hi H3 => ts σ H3 fun st H4 => ∃ a xs, x = .ref a ∧ SqL K H4 a xs ∧ st ≠ some 0 ∧ ∀ p, H4 p = none → Q (.ref p) (upd H4 p (.lst (pickL xs lo hi st)))
def tStT (K : PySem.W.Frag) (to : TE) (tl th ts : TO) : TE := fun σ H Q => to σ H fun x H1 => tl σ H1 fun lo H2 => th σ H2 fun hi H3 => ts σ H3 fun st H4 => ∃ a xs c, x = .ref a ∧ SqT K H4 a xs ∧ st = some c ∧ c ≠ 0 ∧ (pickT xs lo hi c).length ≤ sizeLine ∧
  (((Builtin.Slice.sliceAdjust lo hi c xs.length).1 == 0 && c == 1 && (Builtin.Slice.slicePlaces (Builtin.Slice.sliceAdjust lo hi c xs.length).1 (Builtin.Slice.sliceAdjust lo hi c xs.length).2 c) == xs.length) = true → Q (.ref a) H4) ∧
  (((Builtin.Slice.sliceAdjust lo hi c xs.length).1 == 0 && c == 1 && (Builtin.Slice.slicePlaces (Builtin.Slice.sliceAdjust lo hi c xs.length).1 (Builtin.Slice.sliceAdjust lo hi c xs.length).2 c) == xs.length) = false → NewT (pickT xs lo hi c) H4 Q)
section
variable {X : Cx} {e st : Expr} {to : TE} {lo hi : Option Expr} {tl th ts : TO} {pos p3 : Pos}
theorem pe_stL (ho : PE X e to) (hl : PO X lo tl) (hu : PO X hi th) (hs : PO X (some st) ts) : PE X (.Subscript e (.Slice lo hi (some st) p3) pos) (tStL X.K to tl th ts) := by
  refine ⟨fun pins s σ H Q I h => ?_⟩
  refine Subscript_ (thn (ho.run pins s σ H _ I h) fun v s1 ⟨x, H1, I1, r1, q1⟩ => ?_)
  refine wpAny_Slice (thn (hl.run pins s1 σ H1 _ I1 q1) fun vl s2 ⟨l, H2, I2, pl, q2⟩ => thn (hu.run pins s2 σ H2 _ I2 q2) fun vu s3 ⟨u, H3, I3, pu, q3⟩ => thn (hs.run pins s3 σ H3 _ I3 q3) fun vs s4 ⟨o, H4, I4, ps, q4⟩ => ?_)
  obtain ⟨a, xs, ex, hx, h0, q⟩ := q4
  subst ex
  cases r1
  have I5 : Inv X pins σ H4 { s4 with heap := s4.heap.push { cls := .type "slice", data := .fields #[vl, vu, vs] } } := I4.kept (t' := s4.toks) fun b ob q => Heap.get?_push_of_some _ q
  obtain ⟨its, r, ht, hz⟩ := I5.list hx
  have hlen := r.length
  show wpAny (model X.prog X.w) X.A (subscriptTail e (.Slice lo hi (some st) p3) (.ref a) (.ref s4.heap.objs.size)) (EP X pins σ Q) X.xe { s4 with heap := s4.heap.push { cls := .type "slice", data := .fields #[vl, vu, vs] } }
  refine tail_any (ops := [.ref a, .ref s4.heap.objs.size]) ht.isList.typeIs (PySem.slot_list_getitem.lookup) ?_ (by with_unfolding_all rfl)
  refine wpAny_getItem_list_slice ht.isList (Heap.IsSliceOf.new _ vl vu vs) pl pu ps h0 ?_ (by rw [List.size_toArray]; omega)
  have hle : (slicePick its.toArray l u o).size ≤ its.toArray.size := slicePick_size_le _ _ _ _
  have hpk : (slicePick its.toArray l u o).toList = (sliceRange (sliceBounds l u o xs.length).1 (sliceBounds l u o xs.length).2.1 (sliceBounds l u o xs.length).2.2).filterMap (its[·]?) := by
    unfold slicePick
    rw [List.size_toArray, ← hlen]
    simp
  have rv : Vals (pickL xs l u o) (slicePick its.toArray l u o).toList := by
    rw [hpk]
    exact vals_pick r _
  refine ⟨.ref _, _, I5.laid (t' := s4.toks) (o := .lst (pickL xs l u o)) (fun b ob q => Heap.get?_push_of_some _ q) (Nat.le_refl _) ?_, rfl, q _ (I5.hok.fresh (Nat.le_refl _))⟩
  refine ⟨?_, _, 0, rv, ?_⟩
  · rw [rv.length, Array.length_toList]
    have hs2 : its.toArray.size = its.length := by simp
    exact Nat.le_trans hle (by omega)
  · rw [Heap.get?_push_size _ rfl]
theorem pe_stT (ho : PE X e to) (hl : PO X lo tl) (hu : PO X hi th) (hs : PO X (some st) ts) : PE X (.Subscript e (.Slice lo hi (some st) p3) pos) (tStT X.K to tl th ts) := by
  refine ⟨fun pins s σ H Q I h => ?_⟩
  refine Subscript_ (thn (ho.run pins s σ H _ I h) fun v s1 ⟨x, H1, I1, r1, q1⟩ => ?_)
  refine wpAny_Slice (thn (hl.run pins s1 σ H1 _ I1 q1) fun vl s2 ⟨l, H2, I2, pl, q2⟩ => thn (hu.run pins s2 σ H2 _ I2 q2) fun vu s3 ⟨u, H3, I3, pu, q3⟩ => thn (hs.run pins s3 σ H3 _ I3 q3) fun vs s4 ⟨o, H4, I4, ps, q4⟩ => ?_)
  obtain ⟨a, xs, c, ex, hx, ec, h0, hz, h1, h2⟩ := q4
  subst ex ec
  cases r1
  have I5 : Inv X pins σ H4 { s4 with heap := s4.heap.push { cls := .type "slice", data := .fields #[vl, vu, vs] } } := I4.kept (t' := s4.toks) fun b ob q => Heap.get?_push_of_some _ q
  obtain ⟨its, r, ht, hz2⟩ := I5.tuple hx
  have hlen := r.length
  have hsz : its.toArray.size = xs.length := by rw [List.size_toArray]; exact hlen.symm
  have rv : Vals (pickT xs l u c) (pickT its l u c) := by
    unfold pickT
    rw [← hlen]
    have := vals_pick r ((List.range (Builtin.Slice.slicePlaces (Builtin.Slice.sliceAdjust l u c xs.length).1 (Builtin.Slice.sliceAdjust l u c xs.length).2 c)).map fun (m : Nat) => ((Builtin.Slice.sliceAdjust l u c xs.length).1 + (m : Int) * c).toNat)
    rw [range_map, range_map] at this
    exact this
  show wpAny (model X.prog X.w) X.A (subscriptTail e (.Slice lo hi (some st) p3) (.ref a) (.ref s4.heap.objs.size)) (EP X pins σ Q) X.xe { s4 with heap := s4.heap.push { cls := .type "slice", data := .fields #[vl, vu, vs] } }
  refine tail_any (ops := [.ref a, .ref s4.heap.objs.size]) ht.typeIs (PyProof.Rows.slot_tuple_getitem.lookup) ?_ (by with_unfolding_all rfl)
  refine getItem_tuple_step ht (Heap.IsSliceOf.new _ vl vu vs) pl pu ps h0 (fun hb => ?_) (fun hb => ?_) (by rw [← rv.length]; exact hz)
  · rw [hsz] at hb
    exact ⟨.ref a, H4, I5, rfl, h1 hb⟩
  · rw [hsz] at hb
    exact (h2 hb).go I5 rv hz
end
end StepS
set_option Elab.async false
set_option linter.all false
set_option maxRecDepth 100000
set_option maxHeartbeats 1000000
set_option autoImplicit false
/-! ShB: judgements over (slots, owned objects): expressions (EV), argument lists (EA), tests (ET); names, operators, comparisons, displays, subscripts. -/
namespace Sh
open PySem PySem.Spec PyProof.Rows L2

/-- what a piece of code knows of where it stands -/
structure CF where
  P : Program
  w : World
  K : PySem.W.Frag
  mg : Str → Option Value
  base : Heap
  N : List Str
  sc : Scope
  k : Nat
  cd : Value
  E : XK
  T : Tb
  q : Str
  cl : Option (List (Str × Addr))
structure Sat (F : CF) (X : Cx) : Prop where
  P : X.prog = F.P
  w : X.w = F.w
  K : X.K = F.K
  mg : X.mg = F.mg
  base : X.base = F.base
  N : X.N = F.N
  sc : X.env.scope = F.sc
  cd : X.env.code = F.cd
  room : Room F.k X.A
  calm : X.calm = true
  pass : Passes (L2.CX X.prog X.w) X F.E
  qual : X.env.qual = F.q
  cl : ∀ l, F.cl = some l → X.env.cells = l
abbrev Ga := List (Option D)
def Slots (K : PySem.W.Frag) (G : Hp) (Γ : Ga) (σ : L2.St) : Prop := Γ.length = σ.length ∧ ∀ (i : Nat) (d : D), Γ[i]? = some (some d) → ∃ v, σ[i]? = some (some v) ∧ Rp K G v d
theorem Slots.mono {K : PySem.W.Frag} {G G' : Hp} {Γ : Ga} {σ : L2.St} (h : Slots K G Γ σ) (e : Le G G') : Slots K G' Γ σ :=
  ⟨h.1, fun i d a => by
    obtain ⟨v, e1, r⟩ := h.2 i d a
    exact ⟨v, e1, r.mono e⟩⟩
theorem Slots.put {K : PySem.W.Frag} {G : Hp} {Γ : Ga} {σ : L2.St} (h : Slots K G Γ σ) (i : Nat) {v : V} {d : D} (r : Rp K G v d) : Slots K G (Γ.set i (some d)) (σ.set i (some v)) := by
  refine ⟨by rw [List.length_set, List.length_set, h.1], fun j e a => ?_⟩
  by_cases hj : i = j
  · subst hj
    have hl : i < Γ.length := by
      have := (List.getElem?_eq_some_iff.mp a).1
      rw [List.length_set] at this
      exact this
    rw [List.getElem?_set_self hl] at a
    cases a
    exact ⟨v, List.getElem?_set_self (by rw [← h.1]; exact hl), r⟩
  · rw [List.getElem?_set_ne hj] at a
    obtain ⟨w, e1, r1⟩ := h.2 j e a
    exact ⟨w, by rw [List.getElem?_set_ne hj]; exact e1, r1⟩
/-- less is known -/
def Lq (Γ Γ' : Ga) : Prop := Γ'.length = Γ.length ∧ ∀ (i : Nat) (d : D), Γ'[i]? = some (some d) → Γ[i]? = some (some d)
theorem Lq.refl (Γ : Ga) : Lq Γ Γ := ⟨rfl, fun _ _ h => h⟩
theorem Slots.less {K : PySem.W.Frag} {G : Hp} {Γ Γ' : Ga} {σ : L2.St} (h : Slots K G Γ σ) (l : Lq Γ Γ') : Slots K G Γ' σ :=
  ⟨l.1.trans h.1, fun i d a => h.2 i d (l.2 i d a)⟩

inductive Out where
  | ok (d : D) | er (c : Addr)
inductive OutA where
  | ok (ds : List D) | er (c : Addr)
inductive OutT where
  | ok (b : Bool) | er (c : Addr)
section
variable (F : CF) (G : Hp) (W : OW) (H : Hp)
def Kont (o : Out) (W' : OW) (Q : VK) : Prop := match o with
  | .ok d => ∀ v G' H', Step F.K F.T G W H G' W' H' → Rp F.K G' v d → Q v H'
  | .er c => ∀ G' H', Step F.K F.T G W H G' W' H' → F.E (.ref c) none H'
def KontA (o : OutA) (W' : OW) (Q : List V → Hp → Prop) : Prop := match o with
  | .ok ds => ∀ vs G' H', Step F.K F.T G W H G' W' H' → Rps F.K G' vs ds → Q vs H'
  | .er c => ∀ G' H', Step F.K F.T G W H G' W' H' → F.E (.ref c) none H'
def KontT (o : OutT) (W' : OW) (Q : Bool → Hp → Prop) : Prop := match o with
  | .ok b => ∀ G' H', Step F.K F.T G W H G' W' H' → Q b H'
  | .er c => ∀ G' H', Step F.K F.T G W H G' W' H' → F.E (.ref c) none H'
end
section
variable {F : CF} {G G1 : Hp} {W W1 W2 : OW} {H H1 : Hp}
theorem Kont.step {o : Out} {Q : VK} (k : Kont F G W H o W2 Q) (s : Step F.K F.T G W H G1 W1 H1) : Kont F G1 W1 H1 o W2 Q := by
  cases o with
  | ok d => exact fun v G' H' t r => k v G' H' (s.trans t) r
  | er c => exact fun G' H' t => k G' H' (s.trans t)
theorem KontA.step {o : OutA} {Q : List V → Hp → Prop} (k : KontA F G W H o W2 Q) (s : Step F.K F.T G W H G1 W1 H1) : KontA F G1 W1 H1 o W2 Q := by
  cases o with
  | ok d => exact fun v G' H' t r => k v G' H' (s.trans t) r
  | er c => exact fun G' H' t => k G' H' (s.trans t)
theorem KontT.step {o : OutT} {Q : Bool → Hp → Prop} (k : KontT F G W H o W2 Q) (s : Step F.K F.T G W H G1 W1 H1) : KontT F G1 W1 H1 o W2 Q := by
  cases o with
  | ok d => exact fun G' H' t => k G' H' (s.trans t)
  | er c => exact fun G' H' t => k G' H' (s.trans t)
end

/-- the readings -/
def cE (F : CF) (e : Expr) : TE := fun σ H Q => ∃ t : TE, (∀ X, Sat F X → PE X e t) ∧ t σ H Q
def cA (F : CF) (es : List Expr) : TA := fun σ H Q => ∃ t : TA, (∀ X, Sat F X → PA X es t) ∧ t σ H Q
def cT (F : CF) (e : Expr) : TT := fun σ H Q => ∃ t : TT, (∀ X, Sat F X → PT X e t) ∧ t σ H Q
def cW (F : CF) (e : Expr) : TT := fun σ H Q => ∃ t : TT, (∀ X, Sat F X → PW X e t) ∧ t σ H Q
section
variable {F : CF} {X : Cx} {e : Expr} {es : List Expr}
theorem cE_pe (h : Sat F X) : PE X e (cE F e) := ⟨fun pins s σ H Q I ⟨_, ht, q⟩ => (ht X h).run pins s σ H Q I q⟩
theorem cA_pa (h : Sat F X) : PA X es (cA F es) := ⟨fun pos pins s σ H Q I ⟨_, ht, q⟩ => (ht X h).run pos pins s σ H Q I q⟩
theorem cT_pt (h : Sat F X) : PT X e (cT F e) := ⟨fun pins s σ H Q I ⟨_, ht, q⟩ => (ht X h).run pins s σ H Q I q⟩
theorem cW_pw (h : Sat F X) : PW X e (cW F e) := ⟨fun wh pins s σ H Q I ⟨_, ht, q⟩ => (ht X h).run wh pins s σ H Q I q⟩
end
def EV (F : CF) (e : Expr) (Γ : Ga) (W : OW) (o : Out) (W' : OW) : Prop := ∀ (G H : Hp) (σ : L2.St) (Q : VK), Slots F.K G Γ σ → Hk F.K F.T G W H → Kont F G W H o W' Q → cE F e σ H Q
def EA (F : CF) (es : List Expr) (Γ : Ga) (W : OW) (o : OutA) (W' : OW) : Prop := ∀ (G H : Hp) (σ : L2.St) (Q : List V → Hp → Prop), Slots F.K G Γ σ → Hk F.K F.T G W H → KontA F G W H o W' Q → cA F es σ H Q
def ET (F : CF) (e : Expr) (Γ : Ga) (W : OW) (o : OutT) (W' : OW) : Prop := ∀ (G H : Hp) (σ : L2.St) (Q : Bool → Hp → Prop), Slots F.K G Γ σ → Hk F.K F.T G W H → KontT F G W H o W' Q → cT F e σ H Q
def EW (F : CF) (e : Expr) (Γ : Ga) (W : OW) (o : OutT) (W' : OW) : Prop := ∀ (G H : Hp) (σ : L2.St) (Q : Bool → Hp → Prop), Slots F.K G Γ σ → Hk F.K F.T G W H → KontT F G W H o W' Q → cW F e σ H Q

theorem Sat.un {F : CF} {X : Cx} (h : Sat F X) : X.A.units + 65 < cLine := by have := h.room.un; omega

section
variable {F : CF} {Γ : Ga} {W W1 W2 W3 : OW} {pos : Pos} {a b c : Expr} {d d1 d2 d3 : D} {o : Out}
/-- a reading that is the same everywhere -/
theorem ev_t {e : Expr} (t : TE) (h : ∀ X, Sat F X → PE X e t) (q : ∀ (G H : Hp) (σ : L2.St) (Q : VK), Slots F.K G Γ σ → Hk F.K F.T G W H → Kont F G W H o W1 Q → t σ H Q) : EV F e Γ W o W1 :=
  fun G H σ Q sl hk k => ⟨t, h, q G H σ Q sl hk k⟩

/-! ### names, constants -/
/-- a name the scope has -/
def VisS (sc : Scope) (x : Str) : Prop := sc.names.lookup x = some .local ∨ sc.names.lookup x = some .cell ∨ sc.names.lookup x = some .free
theorem ev_var (i : Nat) {x : Str} (hN : F.N[i]? = some x) (hv : VisS F.sc x) (hΓ : Γ[i]? = some (some d)) (hd : (x == ("__debug__" : Str)) = false := by decide) (hcd : (x == ("__classdict__" : Str)) = false := by decide) : EV F (.Name x pos) Γ W (.ok d) W :=
  ev_t (tVar i) (fun X hX => pe_var (by rw [hX.N]; exact hN) (by unfold Vis; rw [hX.sc]; exact hv) hd hcd) fun G H σ Q sl hk k => by
    obtain ⟨v, e, r⟩ := sl.2 i d hΓ
    exact ⟨v, e, k v G H (.refl hk) r⟩
theorem ev_int {i : Int} {j : Nat} : EV F (.Constant (.int i) j pos) Γ W (.ok (.int i)) W := ev_t _ (fun X hX => pe_int) fun G H σ Q sl hk k => k _ G H (.refl hk) (.int i)
theorem ev_bl {i : Bool} {j : Nat} : EV F (.Constant (.bool i) j pos) Γ W (.ok (.bl i)) W := ev_t _ (fun X hX => pe_bl) fun G H σ Q sl hk k => k _ G H (.refl hk) (.bl i)
theorem ev_non {j : Nat} : EV F (.Constant .none j pos) Γ W (.ok .non) W := ev_t _ (fun X hX => pe_non) fun G H σ Q sl hk k => k _ G H (.refl hk) .non
theorem ev_str {x : Str} {j : Nat} : EV F (.Constant (.str x) j pos) Γ W (.ok (.str x)) W := ev_t _ (fun X hX => pe_str) fun G H σ Q sl hk k => k _ G H (.refl hk) (.str x)
/-- a global name of the code -/
def GlS (F : CF) (x : Str) : Prop := F.sc.names.lookup x = some .globalImplicit
theorem Sat.gl {X : Cx} (h : Sat F X) {x : Str} (g : GlS F x) : Gl X x := by
  unfold Gl Env.kindOf
  rw [h.sc]
  exact g
/-- a constant of the module, by what it stands for at any heap -/
theorem ev_glob {x : Str} {u : Value} {v : V} (hg : GlS F x) (hm : F.mg x = some u) (r : RelV v u) (hd : ∀ G, Rp F.K G v d) (hdb : (x == ("__debug__" : Str)) = false := by decide) : EV F (.Name x pos) Γ W (.ok d) W :=
  ev_t (tC v) (fun X hX => pe_glob (hX.gl hg) (by rw [hX.mg]; exact hm) r hdb) fun G H σ Q sl hk k => k _ G H (.refl hk) (hd G)

/-! ### argument lists -/
theorem ea_nil : EA F [] Γ W (.ok []) W := fun G H σ Q sl hk k => ⟨tNil, fun X hX => pa_nil, k [] G H (.refl hk) .nil⟩
def OutA.cons (d : D) : OutA → OutA
  | .ok ds => .ok (d :: ds)
  | .er c => .er c
theorem ea_cons {e : Expr} {es : List Expr} {ds : List D} (h : EV F e Γ W (.ok d) W1) (t : EA F es Γ W1 (.ok ds) W2) (hs : ∀ env, starEach (e :: es) env = (false, eval e env) :: starEach es env := by intro _; rfl) : EA F (e :: es) Γ W (.ok (d :: ds)) W2 :=
  fun G H σ Q sl hk k => ⟨tCons (cE F e) (cA F es), fun X hX => pa_cons (cE_pe hX) (cA_pa hX) (hs _),
    h G H σ _ sl hk fun v G1 H1 s1 r1 => t G1 H1 σ _ (sl.mono s1.le) s1.hk fun vs G2 H2 s2 r2 => k _ G2 H2 (s1.trans s2) (r2.cons (r1.mono s2.le))⟩
theorem ea_er {e : Expr} {es : List Expr} {cl : Addr} (h : EV F e Γ W (.er cl) W1) (hs : ∀ env, starEach (e :: es) env = (false, eval e env) :: starEach es env := by intro _; rfl) : EA F (e :: es) Γ W (.er cl) W1 :=
  fun G H σ Q sl hk k => ⟨tCons (cE F e) (cA F es), fun X hX => pa_cons (cE_pe hX) (cA_pa hX) (hs _), h G H σ _ sl hk k⟩
theorem ea_er2 {e : Expr} {es : List Expr} {cl : Addr} (h : EV F e Γ W (.ok d) W1) (t : EA F es Γ W1 (.er cl) W2) (hs : ∀ env, starEach (e :: es) env = (false, eval e env) :: starEach es env := by intro _; rfl) : EA F (e :: es) Γ W (.er cl) W2 :=
  fun G H σ Q sl hk k => ⟨tCons (cE F e) (cA F es), fun X hX => pa_cons (cE_pe hX) (cA_pa hX) (hs _),
    h G H σ _ sl hk fun v G1 H1 s1 r1 => t G1 H1 σ _ (sl.mono s1.le) s1.hk fun G2 H2 s2 => k G2 H2 (s1.trans s2)⟩

/-! ### two values in a row -/
theorem ev_op {op : Operator} {r : R2} (ho : ∀ X, Sat F X → OpR X (binaryOp op) r) (ha : EV F a Γ W (.ok d1) W1) (hb : EV F b Γ W1 (.ok d2) W2)
    (hr : ∀ (G H : Hp) (x y : V) (Q : VK), Hk F.K F.T G W2 H → Rp F.K G x d1 → Rp F.K G y d2 → Kont F G W2 H o W3 Q → r x y H Q) : EV F (.BinOp a op b pos) Γ W o W3 :=
  fun G H σ Q sl hk k => ⟨tOp r (cE F a) (cE F b), fun X hX => pe_op (ho X hX) (cE_pe hX) (cE_pe hX),
    ha G H σ _ sl hk fun x G1 H1 s1 r1 => hb G1 H1 σ _ (sl.mono s1.le) s1.hk fun y G2 H2 s2 r2 => hr G2 H2 x y Q s2.hk (r1.mono s2.le) r2 (k.step (s1.trans s2))⟩
theorem ev_bin_er {op : Operator} {cl : Addr} (ha : EV F a Γ W (.er cl) W1) : EV F (.BinOp a op b pos) Γ W (.er cl) W1 :=
  fun G H σ Q sl hk k => ⟨tOp (fun _ _ _ _ => False) (cE F a) (cE F b), fun X hX => pe_op (fun _ _ _ _ _ _ _ _ _ _ _ _ z => z.elim) (cE_pe hX) (cE_pe hX), ha G H σ _ sl hk k⟩
theorem ev_bin_er2 {op : Operator} {cl : Addr} (ha : EV F a Γ W (.ok d1) W1) (hb : EV F b Γ W1 (.er cl) W2) : EV F (.BinOp a op b pos) Γ W (.er cl) W2 :=
  fun G H σ Q sl hk k => ⟨tOp (fun _ _ _ _ => False) (cE F a) (cE F b), fun X hX => pe_op (fun _ _ _ _ _ _ _ _ _ _ _ _ z => z.elim) (cE_pe hX) (cE_pe hX),
    ha G H σ _ sl hk fun x G1 H1 s1 r1 => hb G1 H1 σ _ (sl.mono s1.le) s1.hk fun G2 H2 s2 => k G2 H2 (s1.trans s2)⟩

/-- a list, frozen or owned -/
def AsL (W : OW) (d : D) (ds : List D) : Prop := d = .lst ds ∨ ∃ (a : Addr) (i : Nat), d = .ptr a ∧ W[i]? = some (a, .lst ds)
theorem AsL.own {W : OW} {a : Addr} {ds : List D} (i : Nat) (h : W[i]? = some (a, .lst ds)) : AsL W (.ptr a) ds := .inr ⟨a, i, rfl, h⟩
theorem AsL.lst {W : OW} {ds : List D} : AsL W (.lst ds) ds := .inl rfl
theorem AsL.at {K : PySem.W.Frag} {T : Tb} {G H : Hp} {W : OW} {d : D} {ds : List D} {v : V} (h : AsL W d ds) (hk : Hk K T G W H) (r : Rp K G v d) : ∃ a vs, v = .ref a ∧ H a = some (.lst vs) ∧ Rps K G vs ds := by
  rcases h with rfl | ⟨a, i, rfl, hi⟩
  · obtain ⟨a, vs, rfl, e, q⟩ := r.lst_inv
    exact ⟨a, vs, rfl, hk.sub a _ e, q⟩
  · cases r
    obtain ⟨_, o, e, q⟩ := hk.own _ (List.mem_of_getElem? hi)
    obtain ⟨vs, rfl, q⟩ := q.lst_inv
    exact ⟨a, vs, rfl, e, q⟩
theorem sqt_up {K : PySem.W.Frag} {T : Tb} {G H : Hp} {W : OW} {a : Addr} {vs : List V} (hk : Hk K T G W H) (h : TupK K G a vs) : SqT K H a vs := Le.st hk.sub h.sq
/-- a new list, frozen -/
theorem Kont.newL {F : CF} {G H : Hp} {W : OW} {Q : VK} {ds : List D} {vs : List V} {p : Addr} (k : Kont F G W H (.ok (.lst ds)) W Q) (hk : Hk F.K F.T G W H) (hp : H p = none) (r : Rps F.K G vs ds) : Q (.ref p) (upd H p (.lst vs)) := by
  have s := hk.alloc (o := .lst vs) hp (fun ps e => nomatch e)
  exact k _ _ _ s (.lst_mk upd_same (r.mono s.le))
theorem Kont.newT {F : CF} {G H : Hp} {W : OW} {Q : VK} {ds : List D} {vs : List V} (k : Kont F G W H (.ok (.tup ds)) W Q) (hk : Hk F.K F.T G W H) (r : Rps F.K G vs ds) : StepS.NewT vs H Q := fun p o hp ho => by
  have s := hk.alloc (o := .frz o (.tup vs)) hp (fun ps e => nomatch e)
  exact k _ _ _ s (.tup_mk (.inl ⟨o, upd_same, ho⟩) (r.mono s.le))

/-! ### operators -/
inductive BinR (W : OW) : Operator → D → D → D → Prop
  | addI (i j : Int) : BinR W .Add (.int i) (.int j) (.int (i + j))
  | subI (i j : Int) : BinR W .Sub (.int i) (.int j) (.int (i - j))
  | mulI (i j : Int) (h : (-(2 ^ 64) < i ∧ i < 2 ^ 64) ∨ (-(2 ^ 64) < j ∧ j < 2 ^ 64)) : BinR W .Mult (.int i) (.int j) (.int (i * j))
  | divI (i j : Int) (h : 0 < j ∧ j < 2 ^ 30) : BinR W .FloorDiv (.int i) (.int j) (.int (i / j))
  | modI (i j : Int) (h : 0 < j) : BinR W .Mod (.int i) (.int j) (.int (i % j))
  | addS (x y : Str) (h : x.length + y.length ≤ sizeLine) : BinR W .Add (.str x) (.str y) (.str (x ++ y))
  | addL {d1 d2 : D} {xs ys : List D} (h1 : AsL W d1 xs) (h2 : AsL W d2 ys) (h : xs.length + ys.length ≤ sizeLine) : BinR W .Add d1 d2 (.lst (xs ++ ys))
  | addT (xs ys : List D) (h : xs.length + ys.length ≤ sizeLine) : BinR W .Add (.tup xs) (.tup ys) (.tup (xs ++ ys))
  | repL {d1 : D} {xs : List D} (i : Int) (h1 : AsL W d1 xs) (h : -(2 ^ 63) ≤ i ∧ i < 2 ^ 63 ∧ xs.length * i.toNat ≤ sizeLine) : BinR W .Mult d1 (.int i) (.lst (List.replicate i.toNat xs).flatten)
theorem Rps.rep {K : PySem.W.Frag} {G : Hp} {vs : List V} {ds : List D} (h : Rps K G vs ds) : ∀ n : Nat, Rps K G (List.replicate n vs).flatten (List.replicate n ds).flatten
  | 0 => .nil
  | n + 1 => by
    rw [List.replicate_succ, List.replicate_succ, List.flatten_cons, List.flatten_cons]
    exact h.append (Rps.rep h n)
theorem ev_bin {op : Operator} (ha : EV F a Γ W (.ok d1) W1) (hb : EV F b Γ W1 (.ok d2) W2) (h : BinR W2 op d1 d2 d) : EV F (.BinOp a op b pos) Γ W (.ok d) W2 := by
  cases h with
  | addI i j => exact ev_op (fun X _ => op_add) ha hb fun G H x y Q hk rx ry k => ⟨i, j, rx.int_inv, ry.int_inv, k _ G H (.refl hk) (.int _)⟩
  | subI i j => exact ev_op (fun X _ => op_sub) ha hb fun G H x y Q hk rx ry k => ⟨i, j, rx.int_inv, ry.int_inv, k _ G H (.refl hk) (.int _)⟩
  | mulI i j h => exact ev_op (fun X _ => op_mul) ha hb fun G H x y Q hk rx ry k => ⟨i, j, rx.int_inv, ry.int_inv, h, k _ G H (.refl hk) (.int _)⟩
  | divI i j h => exact ev_op (fun X _ => op_fdiv) ha hb fun G H x y Q hk rx ry k => ⟨i, j, rx.int_inv, ry.int_inv, h, k _ G H (.refl hk) (.int _)⟩
  | modI i j h => exact ev_op (fun X _ => op_mod) ha hb fun G H x y Q hk rx ry k => ⟨i, j, rx.int_inv, ry.int_inv, h, k _ G H (.refl hk) (.int _)⟩
  | addS x y h => exact ev_op (fun X _ => op_add_str) ha hb fun G H v w Q hk rx ry k => ⟨x, y, rx.str_inv, ry.str_inv, h, k _ G H (.refl hk) (.str _)⟩
  | addL h1 h2 h =>
    refine ev_op (fun X _ => op_cat) ha hb fun G H x y Q hk rx ry k => ?_
    obtain ⟨p, vs, rfl, e1, q1⟩ := h1.at hk rx
    obtain ⟨q, ws, rfl, e2, q2⟩ := h2.at hk ry
    exact ⟨p, q, vs, ws, rfl, rfl, e1, e2, by rw [q1.1, q2.1]; exact h, fun r hr => k.newL hk hr (q1.append q2)⟩
  | addT xs ys h =>
    refine ev_op (r := StepS.rCatF F.K) (fun X hX => hX.K ▸ StepS.op_catF) ha hb fun G H x y Q hk rx ry k => ?_
    obtain ⟨p, vs, rfl, e1, q1⟩ := rx.tup_inv
    obtain ⟨q, ws, rfl, e2, q2⟩ := ry.tup_inv
    refine ⟨p, q, vs, ws, rfl, rfl, sqt_up hk e1, sqt_up hk e2, by rw [q1.1, q2.1]; exact h, fun e => ?_, fun _ e => ?_, fun _ _ => k.newT hk (q1.append q2)⟩
    · refine k _ G H (.refl hk) (.tup_mk e2 ?_)
      have : xs = [] := by
        have := q1.1
        rw [e] at this
        exact List.eq_nil_of_length_eq_zero this.symm
      rw [this]
      exact q2
    · refine k _ G H (.refl hk) (.tup_mk e1 ?_)
      have : ys = [] := by
        have := q2.1
        rw [e] at this
        exact List.eq_nil_of_length_eq_zero this.symm
      rw [this, List.append_nil]
      exact q1
  | repL i h1 h =>
    refine ev_op (fun X _ => op_rep) ha hb fun G H x y Q hk rx ry k => ?_
    obtain ⟨p, vs, rfl, e1, q1⟩ := h1.at hk rx
    exact ⟨p, i, vs, rfl, ry.int_inv, e1, h.1, h.2.1, by rw [q1.1]; exact h.2.2, fun r hr => k.newL hk hr (q1.rep _)⟩

/-! ### comparisons -/
/-- what == looks at -/
inductive Py (W : OW) : D → PyData → Prop
  | non : Py W .non .none
  | bl (b : Bool) : Py W (.bl b) (.bool b)
  | int (i : Int) : Py W (.int i) (.int i)
  | str (x : Str) : Py W (.str x) (.str x)
  | lst {ds : List D} {ps : List PyData} : ds.length = ps.length → (∀ (i : Nat) (d : D) (p : PyData), ds[i]? = some d → ps[i]? = some p → Py W d p) → Py W (.lst ds) (.list ps)
  | tup {ds : List D} {ps : List PyData} : ds.length = ps.length → (∀ (i : Nat) (d : D) (p : PyData), ds[i]? = some d → ps[i]? = some p → Py W d p) → Py W (.tup ds) (.tuple ps)
  | own {a : Addr} {i : Nat} {ds : List D} {ps : List PyData} : W[i]? = some (a, .lst ds) → ds.length = ps.length → (∀ (i : Nat) (d : D) (p : PyData), ds[i]? = some d → ps[i]? = some p → Py W d p) → Py W (.ptr a) (.list ps)
theorem dpAll_of {K : PySem.W.Frag} {H : Hp} : ∀ {vs : List V} {ps : List PyData}, vs.length = ps.length → (∀ (i : Nat) (v : V) (p : PyData), vs[i]? = some v → ps[i]? = some p → Dp K H v p) → DpAll K H vs ps
  | [], [], _, _ => .nil
  | [], _ :: _, h, _ => by simp at h
  | _ :: _, [], h, _ => by simp at h
  | v :: vs, p :: ps, h, q => .cons (q 0 v p rfl rfl) (dpAll_of (by simpa using h) fun i v p a b => q (i + 1) v p (by simpa using a) (by simpa using b))
theorem Py.dp {K : PySem.W.Frag} {T : Tb} {G H : Hp} {W : OW} (hk : Hk K T G W H) {d : D} {p : PyData} (h : Py W d p) : ∀ {v : V}, Rp K G v d → Dp K H v p := by
  induction h with
  | non => intro v r; cases r; exact .non
  | bl b => intro v r; cases r; exact .bl b
  | int i => intro v r; cases r; exact .int i
  | str x => intro v r; cases r; exact .str x
  | lst hl _ ih =>
    intro v r
    obtain ⟨a, vs, rfl, e, q⟩ := r.lst_inv
    refine .lst (SqL.of (hk.sub a _ e)) (dpAll_of (q.1.trans hl) fun i v p e1 e2 => ?_)
    obtain ⟨d, e3, r3⟩ := q.getV e1
    exact ih i d p e3 e2 r3
  | tup hl _ ih =>
    intro v r
    obtain ⟨a, vs, rfl, e, q⟩ := r.tup_inv
    refine .tup (sqt_up hk e) (dpAll_of (q.1.trans hl) fun i v p e1 e2 => ?_)
    obtain ⟨d, e3, r3⟩ := q.getV e1
    exact ih i d p e3 e2 r3
  | own hi hl _ ih =>
    intro v r
    cases r
    obtain ⟨_, o, e, q⟩ := hk.own _ (List.mem_of_getElem? hi)
    obtain ⟨vs, rfl, q⟩ := q.lst_inv
    refine .lst (SqL.of e) (dpAll_of (q.1.trans hl) fun i v p e1 e2 => ?_)
    obtain ⟨d, e3, r3⟩ := q.getV e1
    exact ih i d p e3 e2 r3
theorem ev_cmp {op : CmpOp} {r : R2} (ho : ∀ X, Sat F X → OpR X (compareOp op) r) (hm : behindInMarks op b = false) (ha : EV F a Γ W (.ok d1) W1) (hb : EV F b Γ W1 (.ok d2) W2)
    (hr : ∀ (G H : Hp) (x y : V) (Q : VK), Hk F.K F.T G W2 H → Rp F.K G x d1 → Rp F.K G y d2 → Kont F G W2 H o W3 Q → r x y H Q) : EV F (.Compare a [op] [b] pos) Γ W o W3 :=
  fun G H σ Q sl hk k => ⟨tOp r (cE F a) (cE F b), fun X hX => pe_cmpR (ho X hX) (cE_pe hX) (cE_pe hX) hm,
    ha G H σ _ sl hk fun x G1 H1 s1 r1 => hb G1 H1 σ _ (sl.mono s1.le) s1.hk fun y G2 H2 s2 r2 => hr G2 H2 x y Q s2.hk (r1.mono s2.le) r2 (k.step (s1.trans s2))⟩
/-- comparisons that change nothing, by values -/
inductive CmpR (W : OW) : CmpOp → D → D → Bool → Prop
  | ltI (i j : Int) : CmpR W .Lt (.int i) (.int j) (decide (i < j))
  | leI (i j : Int) : CmpR W .LtE (.int i) (.int j) (decide (i ≤ j))
  | gtI (i j : Int) : CmpR W .Gt (.int i) (.int j) (decide (j < i))
  | geI (i j : Int) : CmpR W .GtE (.int i) (.int j) (decide (j ≤ i))
  | eqI (i j : Int) : CmpR W .Eq (.int i) (.int j) (decide (i = j))
  | neI (i j : Int) : CmpR W .NotEq (.int i) (.int j) (!decide (i = j))
  | eqS (i j : Str) : CmpR W .Eq (.str i) (.str j) (decide (i = j))
  | neS (i j : Str) : CmpR W .NotEq (.str i) (.str j) (!decide (i = j))
  | eqB (i j : Bool) : CmpR W .Eq (.bl i) (.bl j) (decide (i = j))
  | neB (i j : Bool) : CmpR W .NotEq (.bl i) (.bl j) (!decide (i = j))
  | isN0 : CmpR W .Is .non .non true
  | ntN0 : CmpR W .IsNot .non .non false
  | isN {d : D} (h : d ≠ .non) : CmpR W .Is d .non false
  | ntN {d : D} (h : d ≠ .non) : CmpR W .IsNot d .non true
  | eqD {d1 d2 : D} {p q : PyData} (h1 : Py W d1 p) (h2 : Py W d2 q) (s1 : SeqAt.shaped p = true) (s2 : SeqAt.shaped q = true) {b : Bool} (e : PyData.eqv p q = b) : CmpR W .Eq d1 d2 b
  | neD {d1 d2 : D} {p q : PyData} (h1 : Py W d1 p) (h2 : Py W d2 q) (s1 : SeqAt.shaped p = true) (s2 : SeqAt.shaped q = true) {b : Bool} (e : (!PyData.eqv p q) = b) : CmpR W .NotEq d1 d2 b
  | inS (c : Nat) (z : Str) : CmpR W .In (.str ⟨#[c]⟩) (.str z) (decide (c ∈ z.cps.toList))
  | niS (c : Nat) (z : Str) : CmpR W .NotIn (.str ⟨#[c]⟩) (.str z) (!decide (c ∈ z.cps.toList))
  | inL {d1 d2 : D} {p : PyData} {qs : List PyData} (h1 : Py W d1 p) (h2 : Py W d2 (.list qs)) (s1 : SeqAt.shaped p = true) (s2 : SeqAt.shaped (.list qs) = true) {b : Bool} (e : (qs.any fun z => PyData.eqv z p) = b) : CmpR W .In d1 d2 b
  | niL {d1 d2 : D} {p : PyData} {qs : List PyData} (h1 : Py W d1 p) (h2 : Py W d2 (.list qs)) (s1 : SeqAt.shaped p = true) (s2 : SeqAt.shaped (.list qs) = true) {b : Bool} (e : (!qs.any fun z => PyData.eqv z p) = b) : CmpR W .NotIn d1 d2 b
  | inT {d1 d2 : D} {p : PyData} {qs : List PyData} (h1 : Py W d1 p) (h2 : Py W d2 (.tuple qs)) (s1 : SeqAt.shaped p = true) (s2 : SeqAt.shaped (.tuple qs) = true) {b : Bool} (e : (qs.any fun z => PyData.eqv z p) = b) : CmpR W .In d1 d2 b
  | niT {d1 d2 : D} {p : PyData} {qs : List PyData} (h1 : Py W d1 p) (h2 : Py W d2 (.tuple qs)) (s1 : SeqAt.shaped p = true) (s2 : SeqAt.shaped (.tuple qs) = true) {b : Bool} (e : (!qs.any fun z => PyData.eqv z p) = b) : CmpR W .NotIn d1 d2 b
def rInTu (K : PySem.W.Frag) (n : Bool) : R2 := fun x y H Q => ∃ d ds, Dp K H x d ∧ Dp K H y (.tuple ds) ∧ SeqAt.shaped d = true ∧ SeqAt.shaped (.tuple ds) = true ∧ Q (.bl (if n then !ds.any fun z => PyData.eqv z d else ds.any fun z => PyData.eqv z d)) H
theorem room_in_tu {A : Around} {d : PyData} {ds : List PyData} (sd : SeqAt.shaped d = true) (hu : A.units + 65 < cLine) : A.units + 1 + min (PyData.depthAll ds) d.depth < cLine := by
  have h1 := SeqAt.depth_of_shaped sd
  have h2 : min (PyData.depthAll ds) d.depth ≤ d.depth := Nat.min_le_right _ _
  omega
theorem op_inTu {X : Cx} (hu : X.A.units + 65 < cLine) : OpR X (compareOp .In) (rInTu X.K false) := by
  intro pins s σ H x y v u Q I rx ry h
  obtain ⟨d, ds, hd, he, sd, se, q⟩ := h
  obtain ⟨as, r1⟩ := Dp.reads I d x v hd rx
  obtain ⟨bs, r2⟩ := Dp.reads I (.tuple ds) y u he ry
  exact SeqAt.in_tuple_reads r2 r1 (SeqAt.canLay_of_shaped se) (SeqAt.canLay_of_shaped sd) (room_in_tu sd hu) ⟨.bl _, H, I, rfl, q⟩
theorem op_niTu {X : Cx} (hu : X.A.units + 65 < cLine) : OpR X (compareOp .NotIn) (rInTu X.K true) := by
  intro pins s σ H x y v u Q I rx ry h
  obtain ⟨d, ds, hd, he, sd, se, q⟩ := h
  obtain ⟨as, r1⟩ := Dp.reads I d x v hd rx
  obtain ⟨bs, r2⟩ := Dp.reads I (.tuple ds) y u he ry
  exact SeqAt.notIn_tuple_reads r2 r1 (SeqAt.canLay_of_shaped se) (SeqAt.canLay_of_shaped sd) (room_in_tu sd hu) ⟨.bl _, H, I, rfl, q⟩
theorem Rp.nn {K : PySem.W.Frag} {G : Hp} {v : V} {d : D} (r : Rp K G v d) (h : d ≠ .non) : v ≠ .non := by
  intro e
  subst e
  cases r
  exact h rfl
theorem dec_is {v w : V} : decide (v = w) = decide (v = w) := rfl
/-- the rule of a comparison as an operation -/
theorem cmp_run {op : CmpOp} {d1 d2 : D} {b : Bool} (h : CmpR W op d1 d2 b) : ∃ r : R2, (∀ X, Sat F X → OpR X (compareOp op) r) ∧ ∀ (G H : Hp) (x y : V) (Q : VK), Hk F.K F.T G W H → Rp F.K G x d1 → Rp F.K G y d2 → Q (.bl b) H → r x y H Q := by
  cases h with
  | ltI i j => exact ⟨_, fun X _ => op_lt, fun G H x y Q hk rx ry k => ⟨i, j, rx.int_inv, ry.int_inv, k⟩⟩
  | leI i j => exact ⟨_, fun X _ => op_le, fun G H x y Q hk rx ry k => ⟨i, j, rx.int_inv, ry.int_inv, k⟩⟩
  | gtI i j => exact ⟨_, fun X _ => op_gt, fun G H x y Q hk rx ry k => ⟨i, j, rx.int_inv, ry.int_inv, k⟩⟩
  | geI i j => exact ⟨_, fun X _ => op_ge, fun G H x y Q hk rx ry k => ⟨i, j, rx.int_inv, ry.int_inv, k⟩⟩
  | eqI i j => exact ⟨_, fun X _ => op_eq, fun G H x y Q hk rx ry k => by
      rw [rx.int_inv, ry.int_inv]
      refine ⟨rfl, ?_⟩
      rw [show decide (V.int i = V.int j) = decide (i = j) by simp]
      exact k⟩
  | neI i j => exact ⟨_, fun X _ => op_ne, fun G H x y Q hk rx ry k => by
      rw [rx.int_inv, ry.int_inv]
      refine ⟨rfl, ?_⟩
      rw [show decide (V.int i = V.int j) = decide (i = j) by simp]
      exact k⟩
  | eqS i j => exact ⟨_, fun X _ => op_eq, fun G H x y Q hk rx ry k => by
      rw [rx.str_inv, ry.str_inv]
      refine ⟨rfl, ?_⟩
      rw [show decide (V.str i = V.str j) = decide (i = j) by simp]
      exact k⟩
  | neS i j => exact ⟨_, fun X _ => op_ne, fun G H x y Q hk rx ry k => by
      rw [rx.str_inv, ry.str_inv]
      refine ⟨rfl, ?_⟩
      rw [show decide (V.str i = V.str j) = decide (i = j) by simp]
      exact k⟩
  | eqB i j => exact ⟨_, fun X _ => op_eq, fun G H x y Q hk rx ry k => by
      rw [rx.bl_inv, ry.bl_inv]
      refine ⟨rfl, ?_⟩
      rw [show decide (V.bl i = V.bl j) = decide (i = j) by simp]
      exact k⟩
  | neB i j => exact ⟨_, fun X _ => op_ne, fun G H x y Q hk rx ry k => by
      rw [rx.bl_inv, ry.bl_inv]
      refine ⟨rfl, ?_⟩
      rw [show decide (V.bl i = V.bl j) = decide (i = j) by simp]
      exact k⟩
  | isN0 => exact ⟨_, fun X _ => op_isN, fun G H x y Q hk rx ry k => ⟨ry.non_inv, by rw [decide_eq_true rx.non_inv]; exact k⟩⟩
  | ntN0 => exact ⟨_, fun X _ => op_notN, fun G H x y Q hk rx ry k => ⟨ry.non_inv, by rw [decide_eq_true rx.non_inv]; exact k⟩⟩
  | isN h => exact ⟨_, fun X _ => op_isN, fun G H x y Q hk rx ry k => ⟨ry.non_inv, by rw [decide_eq_false (rx.nn h)]; exact k⟩⟩
  | ntN h => exact ⟨_, fun X _ => op_notN, fun G H x y Q hk rx ry k => ⟨ry.non_inv, by rw [decide_eq_false (rx.nn h)]; exact k⟩⟩
  | eqD h1 h2 s1 s2 e => exact ⟨rEqD F.K, fun X hX => hX.K ▸ op_eqD (by have := hX.un; omega), fun G H x y Q hk rx ry k => ⟨_, _, h1.dp hk rx, h2.dp hk ry, s1, s2, by rw [e]; exact k⟩⟩
  | neD h1 h2 s1 s2 e => exact ⟨rNeD F.K, fun X hX => hX.K ▸ op_neD (by have := hX.un; omega), fun G H x y Q hk rx ry k => ⟨_, _, h1.dp hk rx, h2.dp hk ry, s1, s2, by rw [e]; exact k⟩⟩
  | inS c z => exact ⟨_, fun X _ => op_in_sign, fun G H x y Q hk rx ry k => ⟨c, z, rx.str_inv, ry.str_inv, k⟩⟩
  | niS c z => exact ⟨_, fun X _ => op_notIn_sign, fun G H x y Q hk rx ry k => ⟨c, z, rx.str_inv, ry.str_inv, k⟩⟩
  | inL h1 h2 s1 s2 e => exact ⟨rInD F.K, fun X hX => hX.K ▸ op_inD hX.un, fun G H x y Q hk rx ry k => ⟨_, _, h1.dp hk rx, h2.dp hk ry, s1, s2, by rw [e]; exact k⟩⟩
  | niL h1 h2 s1 s2 e => exact ⟨rNotInD F.K, fun X hX => hX.K ▸ op_notInD hX.un, fun G H x y Q hk rx ry k => ⟨_, _, h1.dp hk rx, h2.dp hk ry, s1, s2, by rw [e]; exact k⟩⟩
  | inT h1 h2 s1 s2 e => exact ⟨rInTu F.K false, fun X hX => hX.K ▸ op_inTu hX.un, fun G H x y Q hk rx ry k => ⟨_, _, h1.dp hk rx, h2.dp hk ry, s1, s2, by
      rw [e]
      exact k⟩⟩
  | niT h1 h2 s1 s2 e => exact ⟨rInTu F.K true, fun X hX => hX.K ▸ op_niTu hX.un, fun G H x y Q hk rx ry k => ⟨_, _, h1.dp hk rx, h2.dp hk ry, s1, s2, by
      rw [e]
      exact k⟩⟩
theorem ev_cmpR {op : CmpOp} {r : Bool} (ha : EV F a Γ W (.ok d1) W1) (hb : EV F b Γ W1 (.ok d2) W2) (h : CmpR W2 op d1 d2 r) (hm : behindInMarks op b = false := by first | exact nobehind _ (by decide) (by decide) | rfl) : EV F (.Compare a [op] [b] pos) Γ W (.ok (.bl r)) W2 := by
  obtain ⟨t, h1, h2⟩ := cmp_run (F := F) h
  exact ev_cmp h1 hm ha hb fun G H x y Q hk rx ry k => h2 G H x y Q hk rx ry (k _ G H (.refl hk) (.bl r))
/-- a chain of two -/
theorem ev_chain {op op' : CmpOp} {r r' : Bool} (ha : EV F a Γ W (.ok d1) W1) (hb : EV F b Γ W1 (.ok d2) W2) (h : CmpR W2 op d1 d2 r) (hc : r = true → EV F c Γ W2 (.ok d3) W2) (h' : r = true → CmpR W2 op' d2 d3 r') (hm : lastMarks [op, op'] [b, c] = false := by rfl) :
    EV F (.Compare a [op, op'] [b, c] pos) Γ W (.ok (.bl (r && r'))) W2 := by
  obtain ⟨t, h1, h2⟩ := cmp_run (F := F) h
  cases r with
  | true =>
    obtain ⟨t', h1', h2'⟩ := cmp_run (F := F) (h' rfl)
    refine fun G H σ Q sl hk k => ⟨tChain t t' (cE F a) (cE F b) (cE F c), fun X hX => pe_chain (h1 X hX) (h1' X hX) (cE_pe hX) (cE_pe hX) (cE_pe hX) hm, ?_⟩
    refine ha G H σ _ sl hk fun x G1 H1 s1 r1 => hb G1 H1 σ _ (sl.mono s1.le) s1.hk fun y G2 H2 s2 r2 => ?_
    refine h2 G2 H2 x y _ s2.hk (r1.mono s2.le) r2 ⟨true, rfl, ?_⟩
    rw [if_pos rfl]
    refine hc rfl G2 H2 σ _ (sl.mono (s1.le.trans s2.le)) s2.hk fun z G3 H3 s3 r3 => ?_
    exact h2' G3 H3 y z _ s3.hk (r2.mono s3.le) r3 (k _ G3 H3 ((s1.trans s2).trans s3) (.bl _))
  | false =>
    refine fun G H σ Q sl hk k => ⟨tChain t (fun _ _ _ _ => False) (cE F a) (cE F b) (cE F c), fun X hX => pe_chain (h1 X hX) (fun _ _ _ _ _ _ _ _ _ _ _ _ z => z.elim) (cE_pe hX) (cE_pe hX) (cE_pe hX) hm, ?_⟩
    refine ha G H σ _ sl hk fun x G1 H1 s1 r1 => hb G1 H1 σ _ (sl.mono s1.le) s1.hk fun y G2 H2 s2 r2 => ?_
    refine h2 G2 H2 x y _ s2.hk (r1.mono s2.le) r2 ⟨false, rfl, ?_⟩
    rw [if_neg Bool.false_ne_true]
    exact k _ G2 H2 (s1.trans s2) (.bl _)
end
end Sh
set_option Elab.async false
set_option linter.all false
set_option maxRecDepth 100000
set_option maxHeartbeats 1000000
set_option autoImplicit false
/-! ShD: tests, truth, displays, subscripts, slices, calls of built-in functions and methods. -/
namespace Sh
open PySem PySem.Spec PyProof.Rows L2
section
variable {F : CF} {Γ : Ga} {W W1 W2 W3 : OW} {pos : Pos} {a b c e : Expr} {d d1 d2 d3 : D} {o : Out} {oT : OutT}

/-! ### tests -/
theorem et_val {r : Bool} (h : EV F e Γ W (.ok (.bl r)) W1) (he : ∀ env whole, PySem.isTrue e env whole = (do let v ← whole; standAt (Expr.pos e); holding [v] (truthy v)) := by intro _ _; rfl) : ET F e Γ W (.ok r) W1 :=
  fun G H σ Q sl hk k => ⟨tB (cE F e), fun X hX => pt_val (cE_pe hX) (he _), h G H σ _ sl hk fun v G1 H1 s1 r1 => ⟨r, r1.bl_inv, k G1 H1 s1⟩⟩
theorem et_valE {cl : Addr} (h : EV F e Γ W (.er cl) W1) (he : ∀ env whole, PySem.isTrue e env whole = (do let v ← whole; standAt (Expr.pos e); holding [v] (truthy v)) := by intro _ _; rfl) : ET F e Γ W (.er cl) W1 :=
  fun G H σ Q sl hk k => ⟨tB (cE F e), fun X hX => pt_val (cE_pe hX) (he _), h G H σ _ sl hk k⟩
theorem et_cmpR {op : CmpOp} {r : Bool} (ha : EV F a Γ W (.ok d1) W1) (hb : EV F b Γ W1 (.ok d2) W2) (h : CmpR W2 op d1 d2 r) (hm : behindInMarks op b = false := by first | exact nobehind _ (by decide) (by decide) | rfl) : ET F (.Compare a [op] [b] pos) Γ W (.ok r) W2 := by
  obtain ⟨t, h1, h2⟩ := cmp_run (F := F) h
  exact fun G H σ Q sl hk k => ⟨tTest (tOp t (cE F a) (cE F b)), fun X hX => pt_cmpR (h1 X hX) (cE_pe hX) (cE_pe hX) hm,
    ha G H σ _ sl hk fun x G1 H1 s1 r1 => hb G1 H1 σ _ (sl.mono s1.le) s1.hk fun y G2 H2 s2 r2 => h2 G2 H2 x y _ s2.hk (r1.mono s2.le) r2 ⟨r, rfl, k G2 H2 (s1.trans s2)⟩⟩
theorem et_cmpE {op : CmpOp} {cl : Addr} (ha : EV F a Γ W (.er cl) W1) (hm : behindInMarks op b = false := by first | exact nobehind _ (by decide) (by decide) | rfl) : ET F (.Compare a [op] [b] pos) Γ W (.er cl) W1 :=
  fun G H σ Q sl hk k => ⟨tTest (tOp (fun _ _ _ _ => False) (cE F a) (cE F b)), fun X hX => pt_cmpR (fun _ _ _ _ _ _ _ _ _ _ _ _ z => z.elim) (cE_pe hX) (cE_pe hX) hm, ha G H σ _ sl hk k⟩
theorem et_chain {op op' : CmpOp} {r r' : Bool} (ha : EV F a Γ W (.ok d1) W1) (hb : EV F b Γ W1 (.ok d2) W2) (h : CmpR W2 op d1 d2 r) (hc : r = true → EV F c Γ W2 (.ok d3) W2) (h' : r = true → CmpR W2 op' d2 d3 r') (hm : lastMarks [op, op'] [b, c] = false := by rfl) :
    ET F (.Compare a [op, op'] [b, c] pos) Γ W (.ok (r && r')) W2 := by
  obtain ⟨t, h1, h2⟩ := cmp_run (F := F) h
  cases r with
  | true =>
    obtain ⟨t', h1', h2'⟩ := cmp_run (F := F) (h' rfl)
    refine fun G H σ Q sl hk k => ⟨tTest (tChain t t' (cE F a) (cE F b) (cE F c)), fun X hX => pt_chain (h1 X hX) (h1' X hX) (cE_pe hX) (cE_pe hX) (cE_pe hX) hm, ?_⟩
    refine ha G H σ _ sl hk fun x G1 H1 s1 r1 => hb G1 H1 σ _ (sl.mono s1.le) s1.hk fun y G2 H2 s2 r2 => ?_
    refine h2 G2 H2 x y _ s2.hk (r1.mono s2.le) r2 ⟨true, rfl, ?_⟩
    rw [if_pos rfl]
    refine hc rfl G2 H2 σ _ (sl.mono (s1.le.trans s2.le)) s2.hk fun z G3 H3 s3 r3 => ?_
    exact h2' G3 H3 y z _ s3.hk (r2.mono s3.le) r3 ⟨r', rfl, k G3 H3 ((s1.trans s2).trans s3)⟩
  | false =>
    refine fun G H σ Q sl hk k => ⟨tTest (tChain t (fun _ _ _ _ => False) (cE F a) (cE F b) (cE F c)), fun X hX => pt_chain (h1 X hX) (fun _ _ _ _ _ _ _ _ _ _ _ _ z => z.elim) (cE_pe hX) (cE_pe hX) (cE_pe hX) hm, ?_⟩
    refine ha G H σ _ sl hk fun x G1 H1 s1 r1 => hb G1 H1 σ _ (sl.mono s1.le) s1.hk fun y G2 H2 s2 r2 => ?_
    refine h2 G2 H2 x y _ s2.hk (r1.mono s2.le) r2 ⟨false, rfl, ?_⟩
    rw [if_neg Bool.false_ne_true]
    exact ⟨false, rfl, k G2 H2 (s1.trans s2)⟩
theorem et_not {r : Bool} (h : ET F a Γ W (.ok r) W1) : ET F (.UnaryOp .Not a pos) Γ W (.ok (!r)) W1 :=
  fun G H σ Q sl hk k => ⟨tNot (cT F a), fun X hX => pt_not (cT_pt hX), h G H σ _ sl hk fun G1 H1 s1 => k G1 H1 s1⟩
theorem et_notE {cl : Addr} (h : ET F a Γ W (.er cl) W1) : ET F (.UnaryOp .Not a pos) Γ W (.er cl) W1 :=
  fun G H σ Q sl hk k => ⟨tNot (cT F a), fun X hX => pt_not (cT_pt hX), h G H σ _ sl hk k⟩
theorem et_w (h : EW F e Γ W oT W1) : ET F e Γ W oT W1 := fun G H σ Q sl hk k => by
  obtain ⟨t, ht, q⟩ := h G H σ Q sl hk k
  exact ⟨t, fun X hX => (ht X hX).pt, q⟩
/-- the last of an and, of an or -/
theorem ew_and1 (h : ET F a Γ W oT W1) : EW F (.BoolOp .And [a] pos) Γ W oT W1 := fun G H σ Q sl hk k => ⟨cT F a, fun X hX => pw_and1 (cT_pt hX), h G H σ Q sl hk k⟩
theorem ew_or1 (h : ET F a Γ W oT W1) : EW F (.BoolOp .Or [a] pos) Γ W oT W1 := fun G H σ Q sl hk k => ⟨cT F a, fun X hX => pw_or1 (cT_pt hX), h G H σ Q sl hk k⟩
theorem ew_andT {rest : List Expr} (h : ET F a Γ W (.ok true) W1) (t : EW F (.BoolOp .And (b :: rest) pos) Γ W1 oT W2) : EW F (.BoolOp .And (a :: b :: rest) pos) Γ W oT W2 :=
  fun G H σ Q sl hk k => ⟨tAnd (cT F a) (cW F (.BoolOp .And (b :: rest) pos)), fun X hX => pw_and (cT_pt hX) (cW_pw hX), h G H σ _ sl hk fun G1 H1 s1 => by
    rw [if_pos rfl]
    exact t G1 H1 σ Q (sl.mono s1.le) s1.hk (k.step s1)⟩
theorem ew_andF {rest : List Expr} (h : ET F a Γ W (.ok false) W1) : EW F (.BoolOp .And (a :: b :: rest) pos) Γ W (.ok false) W1 :=
  fun G H σ Q sl hk k => ⟨tAnd (cT F a) (cW F (.BoolOp .And (b :: rest) pos)), fun X hX => pw_and (cT_pt hX) (cW_pw hX), h G H σ _ sl hk fun G1 H1 s1 => by
    rw [if_neg Bool.false_ne_true]
    exact k G1 H1 s1⟩
theorem ew_orF {rest : List Expr} (h : ET F a Γ W (.ok false) W1) (t : EW F (.BoolOp .Or (b :: rest) pos) Γ W1 oT W2) : EW F (.BoolOp .Or (a :: b :: rest) pos) Γ W oT W2 :=
  fun G H σ Q sl hk k => ⟨tOr (cT F a) (cW F (.BoolOp .Or (b :: rest) pos)), fun X hX => pw_or (cT_pt hX) (cW_pw hX), h G H σ _ sl hk fun G1 H1 s1 => by
    rw [if_neg Bool.false_ne_true]
    exact t G1 H1 σ Q (sl.mono s1.le) s1.hk (k.step s1)⟩
theorem ew_orT {rest : List Expr} (h : ET F a Γ W (.ok true) W1) : EW F (.BoolOp .Or (a :: b :: rest) pos) Γ W (.ok true) W1 :=
  fun G H σ Q sl hk k => ⟨tOr (cT F a) (cW F (.BoolOp .Or (b :: rest) pos)), fun X hX => pw_or (cT_pt hX) (cW_pw hX), h G H σ _ sl hk fun G1 H1 s1 => by
    rw [if_pos rfl]
    exact k G1 H1 s1⟩
/-- .. where nothing changes -/
theorem ew_and {rest : List Expr} {r r' : Bool} (h : ET F a Γ W (.ok r) W) (t : r = true → EW F (.BoolOp .And (b :: rest) pos) Γ W (.ok r') W) : EW F (.BoolOp .And (a :: b :: rest) pos) Γ W (.ok (r && r')) W := by
  cases r with
  | true => exact ew_andT h (t rfl)
  | false => exact ew_andF h
theorem ew_or {rest : List Expr} {r r' : Bool} (h : ET F a Γ W (.ok r) W) (t : r = false → EW F (.BoolOp .Or (b :: rest) pos) Γ W (.ok r') W) : EW F (.BoolOp .Or (a :: b :: rest) pos) Γ W (.ok (r || r')) W := by
  cases r with
  | true => exact ew_orT h
  | false => exact ew_orF h (t rfl)

/-! ### and, or, not as values -/
theorem ev_one {op : BoolOp} (h : EV F a Γ W o W1) : EV F (.BoolOp op [a] pos) Γ W o W1 := fun G H σ Q sl hk k => ⟨cE F a, fun X hX => pe_one (cE_pe hX), h G H σ Q sl hk k⟩
theorem ev_andT {rest : List Expr} (h : EV F a Γ W (.ok (.bl true)) W1) (t : EV F (.BoolOp .And (b :: rest) pos) Γ W1 o W2) : EV F (.BoolOp .And (a :: b :: rest) pos) Γ W o W2 :=
  fun G H σ Q sl hk k => ⟨tAndV (cE F a) (cE F (.BoolOp .And (b :: rest) pos)), fun X hX => pe_and (cE_pe hX) (cE_pe hX), h G H σ _ sl hk fun v G1 H1 s1 r1 => ⟨true, r1.bl_inv, by
    rw [if_pos rfl]
    exact t G1 H1 σ Q (sl.mono s1.le) s1.hk (k.step s1)⟩⟩
theorem ev_andF {rest : List Expr} (h : EV F a Γ W (.ok (.bl false)) W1) : EV F (.BoolOp .And (a :: b :: rest) pos) Γ W (.ok (.bl false)) W1 :=
  fun G H σ Q sl hk k => ⟨tAndV (cE F a) (cE F (.BoolOp .And (b :: rest) pos)), fun X hX => pe_and (cE_pe hX) (cE_pe hX), h G H σ _ sl hk fun v G1 H1 s1 r1 => ⟨false, r1.bl_inv, by
    rw [if_neg Bool.false_ne_true]
    exact k _ G1 H1 s1 (.bl false)⟩⟩
theorem ev_orF {rest : List Expr} (h : EV F a Γ W (.ok (.bl false)) W1) (t : EV F (.BoolOp .Or (b :: rest) pos) Γ W1 o W2) : EV F (.BoolOp .Or (a :: b :: rest) pos) Γ W o W2 :=
  fun G H σ Q sl hk k => ⟨tOrV (cE F a) (cE F (.BoolOp .Or (b :: rest) pos)), fun X hX => pe_or (cE_pe hX) (cE_pe hX), h G H σ _ sl hk fun v G1 H1 s1 r1 => ⟨false, r1.bl_inv, by
    rw [if_neg Bool.false_ne_true]
    exact t G1 H1 σ Q (sl.mono s1.le) s1.hk (k.step s1)⟩⟩
theorem ev_orT {rest : List Expr} (h : EV F a Γ W (.ok (.bl true)) W1) : EV F (.BoolOp .Or (a :: b :: rest) pos) Γ W (.ok (.bl true)) W1 :=
  fun G H σ Q sl hk k => ⟨tOrV (cE F a) (cE F (.BoolOp .Or (b :: rest) pos)), fun X hX => pe_or (cE_pe hX) (cE_pe hX), h G H σ _ sl hk fun v G1 H1 s1 r1 => ⟨true, r1.bl_inv, by
    rw [if_pos rfl]
    exact k _ G1 H1 s1 (.bl true)⟩⟩
theorem ev_and {rest : List Expr} {r r' : Bool} (h : EV F a Γ W (.ok (.bl r)) W) (t : r = true → EV F (.BoolOp .And (b :: rest) pos) Γ W (.ok (.bl r')) W) : EV F (.BoolOp .And (a :: b :: rest) pos) Γ W (.ok (.bl (r && r'))) W := by
  cases r with
  | true => exact ev_andT h (t rfl)
  | false => exact ev_andF h
theorem ev_or {rest : List Expr} {r r' : Bool} (h : EV F a Γ W (.ok (.bl r)) W) (t : r = false → EV F (.BoolOp .Or (b :: rest) pos) Γ W (.ok (.bl r')) W) : EV F (.BoolOp .Or (a :: b :: rest) pos) Γ W (.ok (.bl (r || r'))) W := by
  cases r with
  | true => exact ev_orT h
  | false => exact ev_orF h (t rfl)
theorem ev_not {r : Bool} (h : EV F a Γ W (.ok (.bl r)) W1) : EV F (.UnaryOp .Not a pos) Γ W (.ok (.bl (!r))) W1 :=
  fun G H σ Q sl hk k => ⟨tNotV (cE F a), fun X hX => pe_not (cE_pe hX), h G H σ _ sl hk fun v G1 H1 s1 r1 => ⟨r, r1.bl_inv, k _ G1 H1 s1 (.bl _)⟩⟩
theorem ev_neg {i : Int} (h : EV F a Γ W (.ok (.int i)) W1) : EV F (.UnaryOp .USub a pos) Γ W (.ok (.int (-i))) W1 :=
  fun G H σ Q sl hk k => ⟨tUn (rU fun i => .int (-i)) (cE F a), fun X hX => pe_un un_neg (cE_pe hX), h G H σ _ sl hk fun v G1 H1 s1 r1 => ⟨i, r1.int_inv, k _ G1 H1 s1 (.int _)⟩⟩
theorem ev_ifT (h : ET F c Γ W (.ok true) W1) (t : EV F a Γ W1 o W2) : EV F (.IfExp c a b pos) Γ W o W2 :=
  fun G H σ Q sl hk k => ⟨tIf (cT F c) (cE F a) (cE F b), fun X hX => pe_ifExp (cT_pt hX) (cE_pe hX) (cE_pe hX), h G H σ _ sl hk fun G1 H1 s1 => by
    rw [if_pos rfl]
    exact t G1 H1 σ Q (sl.mono s1.le) s1.hk (k.step s1)⟩
theorem ev_ifF (h : ET F c Γ W (.ok false) W1) (t : EV F b Γ W1 o W2) : EV F (.IfExp c a b pos) Γ W o W2 :=
  fun G H σ Q sl hk k => ⟨tIf (cT F c) (cE F a) (cE F b), fun X hX => pe_ifExp (cT_pt hX) (cE_pe hX) (cE_pe hX), h G H σ _ sl hk fun G1 H1 s1 => by
    rw [if_neg Bool.false_ne_true]
    exact t G1 H1 σ Q (sl.mono s1.le) s1.hk (k.step s1)⟩
theorem ev_if {r : Bool} (h : ET F c Γ W (.ok r) W1) (h1 : r = true → EV F a Γ W1 o W2) (h2 : r = false → EV F b Γ W1 o W2) : EV F (.IfExp c a b pos) Γ W o W2 := by
  cases r with
  | true => exact ev_ifT h (h1 rfl)
  | false => exact ev_ifF h (h2 rfl)

/-! ### new lists -/
/-- e gives a new list of ds -/
def EN (F : CF) (e : Expr) (Γ : Ga) (W : OW) (ds : List D) (W' : OW) : Prop := ∀ (G H : Hp) (σ : L2.St) (Q : VK), Slots F.K G Γ σ → Hk F.K F.T G W H →
  (∀ p G' H', H p = none → Step F.K F.T G W H G' ((p, .lst ds) :: W') H' → Q (.ref p) H') → cE F e σ H Q
theorem EN.ev {ds : List D} (h : EN F e Γ W ds W1) : EV F e Γ W (.ok (.lst ds)) W1 := fun G H σ Q sl hk k => h G H σ Q sl hk fun p G' H' hp s => by
  obtain ⟨o, e1, r, s2⟩ := s.hk.freeze (i := 0) rfl
  obtain ⟨vs, rfl, r⟩ := r.lst_inv
  exact k _ _ _ (s.trans s2) (.lst_mk upd_same (r.mono s2.le))
theorem ev_tup {es : List Expr} {n : Nat} {ds : List D} (h : EA F es Γ W (.ok ds) W1) (hz : ds.length ≤ 1000) : EV F (.Tuple es n pos) Γ W (.ok (.tup ds)) W1 :=
  fun G H σ Q sl hk k => ⟨StepS.tTupF (cA F es), fun X hX => StepS.pe_tupF (cA_pa hX), h G H σ _ sl hk fun vs G1 H1 s1 r1 => ⟨by rw [r1.1]; exact Nat.le_of_lt (small1000 hz), (k.step s1).newT s1.hk r1⟩⟩
theorem ev_tupE {es : List Expr} {n : Nat} {cl : Addr} (h : EA F es Γ W (.er cl) W1) : EV F (.Tuple es n pos) Γ W (.er cl) W1 :=
  fun G H σ Q sl hk k => ⟨StepS.tTupF (cA F es), fun X hX => StepS.pe_tupF (cA_pa hX), h G H σ _ sl hk k⟩
theorem en_lst {es : List Expr} {ds : List D} (h : EA F es Γ W (.ok ds) W1) (hz : ds.length ≤ 1000) : EN F (.List es pos) Γ W ds W1 :=
  fun G H σ Q sl hk k => ⟨tLst (cA F es), fun X hX => pe_lst (cA_pa hX), h G H σ _ sl hk fun vs G1 H1 s1 r1 => ⟨by rw [r1.1]; exact Nat.le_of_lt (small1000 hz), fun p hp => k p G1 _ (s1.back hp) (s1.trans (s1.hk.allocO hp r1))⟩⟩
theorem en_cat {xs ys : List D} (ha : EV F a Γ W (.ok d1) W1) (hb : EV F b Γ W1 (.ok d2) W2) (h1 : AsL W2 d1 xs) (h2 : AsL W2 d2 ys) (h : xs.length + ys.length ≤ sizeLine) : EN F (.BinOp a .Add b pos) Γ W (xs ++ ys) W2 :=
  fun G H σ Q sl hk k => ⟨tOp rCat (cE F a) (cE F b), fun X hX => pe_op op_cat (cE_pe hX) (cE_pe hX), ha G H σ _ sl hk fun x G1 H1 s1 r1 => hb G1 H1 σ _ (sl.mono s1.le) s1.hk fun y G2 H2 s2 r2 => by
    obtain ⟨p, vs, rfl, e1, q1⟩ := h1.at s2.hk (r1.mono s2.le)
    obtain ⟨q, ws, rfl, e2, q2⟩ := h2.at s2.hk r2
    exact ⟨p, q, vs, ws, rfl, rfl, e1, e2, by rw [q1.1, q2.1]; exact h, fun z hz => k z G2 _ (s1.back (s2.back hz)) ((s1.trans s2).trans (s2.hk.allocO hz (q1.append q2)))⟩⟩
theorem en_rep {xs : List D} {i : Int} (ha : EV F a Γ W (.ok d1) W1) (hb : EV F b Γ W1 (.ok (.int i)) W2) (h1 : AsL W2 d1 xs) (h : -(2 ^ 63) ≤ i ∧ i < 2 ^ 63 ∧ xs.length * i.toNat ≤ sizeLine) : EN F (.BinOp a .Mult b pos) Γ W (List.replicate i.toNat xs).flatten W2 :=
  fun G H σ Q sl hk k => ⟨tOp rRep (cE F a) (cE F b), fun X hX => pe_op op_rep (cE_pe hX) (cE_pe hX), ha G H σ _ sl hk fun x G1 H1 s1 r1 => hb G1 H1 σ _ (sl.mono s1.le) s1.hk fun y G2 H2 s2 r2 => by
    obtain ⟨p, vs, rfl, e1, q1⟩ := h1.at s2.hk (r1.mono s2.le)
    exact ⟨p, i, vs, rfl, r2.int_inv, e1, h.1, h.2.1, by rw [q1.1]; exact h.2.2, fun z hz => k z G2 _ (s1.back (s2.back hz)) ((s1.trans s2).trans (s2.hk.allocO hz (q1.rep _)))⟩⟩

/-! ### subscripts -/
theorem Rps.atI {K : PySem.W.Frag} {G : Hp} {vs : List V} {ds : List D} (h : Rps K G vs ds) {i : Int} {x : D} (e : L2.atI ds i = some x) : ∃ v, L2.atI vs i = some v ∧ Rp K G v x := by
  unfold L2.atI at e ⊢
  rw [h.1]
  cases q : ixN ds.length i with
  | none =>
    rw [q] at e
    cases e
  | some j =>
    rw [q] at e
    exact h.get e
/-- a key as data -/
def kD : Key → D
  | .inl i => .int i
  | .inr x => .str x
def valD {κ : Type} [DecidableEq κ] (kvs : List (κ × D)) (k : κ) : Option D := (kvs.find? fun kv => decide (kv.1 = k)).map (·.2)
theorem Rpk.nil {κ : Type} {K : PySem.W.Frag} {G : Hp} : Rpk (κ := κ) K G [] [] := ⟨rfl, .nil⟩
theorem Rpk.inv {κ : Type} {K : PySem.W.Frag} {G : Hp} {kvs : List (κ × V)} {k : κ} {d : D} {ds : List (κ × D)} (h : Rpk K G kvs ((k, d) :: ds)) : ∃ v vs, kvs = (k, v) :: vs ∧ Rp K G v d ∧ Rpk K G vs ds := by
  cases kvs with
  | nil => have := h.1; simp at this
  | cons p vs =>
    obtain ⟨k', v⟩ := p
    obtain ⟨h1, h2⟩ := h
    rw [List.map_cons, List.map_cons] at h1 h2
    injection h1 with e1 e2
    have e1 : k' = k := e1
    subst e1
    exact ⟨v, vs, rfl, h2.head, e2, h2.tail⟩
theorem Rpk.inv0 {κ : Type} {K : PySem.W.Frag} {G : Hp} {kvs : List (κ × V)} (h : Rpk K G kvs []) : kvs = [] := by
  cases kvs with
  | nil => rfl
  | cons p vs => have := h.1; simp at this
theorem Rpk.val {K : PySem.W.Frag} {G : Hp} {κ : Type} [DecidableEq κ] (k : κ) : ∀ {ds : List (κ × D)} {kvs : List (κ × V)}, Rpk K G kvs ds → (valD ds k = none ∧ valV kvs k = none) ∨ ∃ d v, valD ds k = some d ∧ valV kvs k = some v ∧ Rp K G v d
  | [], kvs, h => by
    rw [h.inv0]
    exact .inl ⟨rfl, rfl⟩
  | (j, d) :: ds, kvs, h => by
    obtain ⟨v, vs, rfl, r, t⟩ := h.inv
    by_cases e : j = k
    · refine .inr ⟨d, v, ?_, ?_, r⟩
      · simp [valD, e]
      · simp [valV, e]
    · have ih := Rpk.val k t
      have e1 : valD ((j, d) :: ds) k = valD ds k := by simp [valD, e]
      have e2 : valV ((j, v) :: vs) k = valV vs k := by simp [valV, e]
      rw [e1, e2]
      exact ih
theorem Rp.dct_inv {K : PySem.W.Frag} {G : Hp} {v : V} {ds : List (Key × D)} (h : Rp K G v (.dct ds)) : ∃ a o kvs, v = .ref a ∧ G a = some (.frz o (.dK kvs)) ∧ Rpk K G kvs ds := by
  cases h with
  | dct h1 h2 h3 =>
    refine ⟨_, _, _, rfl, h1, h2, ?_, h3⟩
    have := congrArg List.length h2
    rw [List.length_map, List.length_map] at this
    rw [List.length_map, List.length_map, this]
/-- a dict, frozen or owned -/
def AsK (W : OW) (d : D) (ds : List (Key × D)) : Prop := d = .dct ds ∨ ∃ (a : Addr) (i : Nat), d = .ptr a ∧ W[i]? = some (a, .dK ds)
theorem AsK.at {K : PySem.W.Frag} {T : Tb} {G H : Hp} {W : OW} {d : D} {ds : List (Key × D)} {v : V} (h : AsK W d ds) (hk : Hk K T G W H) (r : Rp K G v d) : ∃ a kvs, v = .ref a ∧ Rd H a (.dK kvs) ∧ Rpk K G kvs ds := by
  rcases h with rfl | ⟨a, i, rfl, hi⟩
  · obtain ⟨a, o, vs, rfl, e, q⟩ := r.dct_inv
    exact ⟨a, vs, rfl, .inr ⟨o, hk.sub a _ e⟩, q⟩
  · cases r
    obtain ⟨_, o, e, q⟩ := hk.own _ (List.mem_of_getElem? hi)
    obtain ⟨vs, rfl, q⟩ := q.dK_inv
    exact ⟨a, vs, rfl, .inl e, q⟩
theorem Rp.key_inv {K : PySem.W.Frag} {G : Hp} {v : V} {k : Key} (r : Rp K G v (kD k)) : v = kV k := by
  cases k with
  | inl i => exact r.int_inv
  | inr x => exact r.str_inv
inductive IxD (W : OW) : D → D → D → Prop
  | lst {d : D} {ds : List D} {i : Int} {x : D} (h : AsL W d ds) (e : L2.atI ds i = some x) : IxD W d (.int i) x
  | tup {ds : List D} {i : Int} {x : D} (e : L2.atI ds i = some x) : IxD W (.tup ds) (.int i) x
  | str {z : Str} {i : Int} {c : Nat} (hz : z.length ≤ sizeLine) (e : L2.atI z.cps.toList i = some c) : IxD W (.str z) (.int i) (.str ⟨#[c]⟩)
theorem ev_ix (ha : EV F a Γ W (.ok d1) W1) (hb : EV F b Γ W1 (.ok d2) W2) (h : IxD W2 d1 d2 d) (hs : PlainIx b := by exact fun _ _ => rfl) : EV F (.Subscript a b pos) Γ W (.ok d) W2 := by
  cases h with
  | lst h e => exact fun G H σ Q sl hk k => ⟨tOp (rIxL F.K) (cE F a) (cE F b), fun X hX => pe_ix (hX.K ▸ ix_list) (cE_pe hX) (cE_pe hX) hs,
      ha G H σ _ sl hk fun x G1 H1 s1 r1 => hb G1 H1 σ _ (sl.mono s1.le) s1.hk fun y G2 H2 s2 r2 => by
        obtain ⟨p, vs, rfl, e1, q1⟩ := h.at s2.hk (r1.mono s2.le)
        obtain ⟨v, e2, r3⟩ := q1.atI e
        exact ⟨p, vs, _, v, rfl, r2.int_inv, SqL.of e1, e2, k _ G2 H2 (s1.trans s2) r3⟩⟩
  | tup e => exact fun G H σ Q sl hk k => ⟨tOp (rIxT F.K) (cE F a) (cE F b), fun X hX => pe_ix (hX.K ▸ ix_tup) (cE_pe hX) (cE_pe hX) hs,
      ha G H σ _ sl hk fun x G1 H1 s1 r1 => hb G1 H1 σ _ (sl.mono s1.le) s1.hk fun y G2 H2 s2 r2 => by
        obtain ⟨p, vs, rfl, e1, q1⟩ := (r1.mono s2.le).tup_inv
        obtain ⟨v, e2, r3⟩ := q1.atI e
        exact ⟨p, vs, _, v, rfl, r2.int_inv, sqt_up s2.hk e1, e2, k _ G2 H2 (s1.trans s2) r3⟩⟩
  | str hz e => exact fun G H σ Q sl hk k => ⟨tOp rIxS (cE F a) (cE F b), fun X hX => pe_ix ix_str (cE_pe hX) (cE_pe hX) hs,
      ha G H σ _ sl hk fun x G1 H1 s1 r1 => hb G1 H1 σ _ (sl.mono s1.le) s1.hk fun y G2 H2 s2 r2 =>
        ⟨_, _, _, r1.str_inv, r2.int_inv, hz, e, k _ G2 H2 (s1.trans s2) (.str _)⟩⟩
theorem ev_dget {ds : List (Key × D)} {q : Key} (ha : EV F a Γ W (.ok d1) W1) (hb : EV F b Γ W1 (.ok (kD q)) W2) (h : AsK W2 d1 ds) (e : valD ds q = some d) (hs : NoSl b := by exact fun _ _ => rfl) : EV F (.Subscript a b pos) Γ W (.ok d) W2 :=
  fun G H σ Q sl hk k => ⟨tDGet (cE F a) (cE F b), fun X hX => pe_dget (by have := hX.un; omega) (cE_pe hX) (cE_pe hX) hs,
    ha G H σ _ sl hk fun x G1 H1 s1 r1 => hb G1 H1 σ _ (sl.mono s1.le) s1.hk fun y G2 H2 s2 r2 => by
      obtain ⟨p, kvs, rfl, e1, q1⟩ := h.at s2.hk (r1.mono s2.le)
      rcases q1.val q with ⟨z, _⟩ | ⟨d', v, z1, z2, r⟩
      · rw [e] at z
        cases z
      · rw [e] at z1
        cases z1
        refine ⟨p, v, rfl, ?_, k _ G2 H2 (s1.trans s2) r⟩
        rw [r2.key_inv, ← z2]
        exact .inl ⟨kvs, q, e1, rfl, rfl⟩⟩

/-! ### slices -/
def cO (F : CF) (e : Option Expr) : TO := fun σ H Q => ∃ t : TO, (∀ X, Sat F X → PO X e t) ∧ t σ H Q
theorem cO_po {X : Cx} {e : Option Expr} (h : Sat F X) : PO X e (cO F e) := ⟨fun pins s σ H Q I ⟨_, ht, q⟩ => (ht X h).run pins s σ H Q I q⟩
def EO (F : CF) (e : Option Expr) (Γ : Ga) (W : OW) (i : Option Int) (W' : OW) : Prop := ∀ (G H : Hp) (σ : L2.St) (Q : Option Int → Hp → Prop), Slots F.K G Γ σ → Hk F.K F.T G W H → (∀ G' H', Step F.K F.T G W H G' W' H' → Q i H') → cO F e σ H Q
theorem eo_none : EO F none Γ W none W := fun G H σ Q sl hk k => ⟨tNoPart, fun X hX => po_none, k G H (.refl hk)⟩
theorem eo_some {i : Int} (h : EV F e Γ W (.ok (.int i)) W1) : EO F (some e) Γ W (some i) W1 :=
  fun G H σ Q sl hk k => ⟨tPart (cE F e), fun X hX => po_some (cE_pe hX), h G H σ _ sl hk fun v G1 H1 s1 r1 => ⟨i, r1.int_inv, k G1 H1 s1⟩⟩
def cutD {α : Type} (xs : List α) (lo hi : Option Int) : List α := (xs.drop (HT.sIx xs.length 0 lo)).take (HT.sIx xs.length xs.length hi - HT.sIx xs.length 0 lo)
theorem Rps.cut {K : PySem.W.Frag} {G : Hp} {vs : List V} {ds : List D} (h : Rps K G vs ds) (lo hi : Option Int) : Rps K G (cutV vs lo hi) (cutD ds lo hi) := by
  unfold cutV cutD
  rw [h.1]
  exact (h.drop _).take _
theorem Rps.pick {K : PySem.W.Frag} {G : Hp} {vs : List V} {ds : List D} (h : Rps K G vs ds) : ∀ l : List Nat, Rps K G (l.filterMap (vs[·]?)) (l.filterMap (ds[·]?))
  | [] => .nil
  | i :: l => by
    rw [List.filterMap_cons, List.filterMap_cons]
    cases e : ds[i]? with
    | none =>
      have : vs[i]? = none := by
        rw [List.getElem?_eq_none_iff] at e ⊢
        rw [h.1]
        exact e
      rw [this]
      exact h.pick l
    | some x =>
      obtain ⟨v, e2, q⟩ := h.get e
      rw [e2]
      exact (h.pick l).cons q
theorem Rps.pickL {K : PySem.W.Frag} {G : Hp} {vs : List V} {ds : List D} (h : Rps K G vs ds) (lo hi st : Option Int) : Rps K G (StepS.pickL vs lo hi st) (StepS.pickL ds lo hi st) := by
  unfold StepS.pickL
  rw [h.1]
  exact h.pick _
theorem Rps.pickT {K : PySem.W.Frag} {G : Hp} {vs : List V} {ds : List D} (h : Rps K G vs ds) (lo hi : Option Int) (c : Int) : Rps K G (StepS.pickT vs lo hi c) (StepS.pickT ds lo hi c) := by
  unfold StepS.pickT
  rw [h.1]
  have := h.pick ((List.range (Builtin.Slice.slicePlaces (Builtin.Slice.sliceAdjust lo hi c ds.length).1 (Builtin.Slice.sliceAdjust lo hi c ds.length).2 c)).map fun (m : Nat) => ((Builtin.Slice.sliceAdjust lo hi c ds.length).1 + (m : Int) * c).toNat)
  rw [StepS.range_map, StepS.range_map] at this
  exact this
section
variable {lo hi : Option Expr} {l h' : Option Int} {st : Expr} {p2 : Pos} {W4 : OW}
theorem en_slice {ds : List D} (he : EV F e Γ W (.ok d) W1) (hl : EO F lo Γ W1 l W2) (hh : EO F hi Γ W2 h' W3) (hd : AsL W3 d ds) : EN F (.Subscript e (.Slice lo hi none p2) pos) Γ W (cutD ds l h') W3 :=
  fun G H σ Q sl hk k => ⟨tSl (rSlL F.K) (cE F e) (cO F lo) (cO F hi), fun X hX => pe_slice (hX.K ▸ sl_list) (cE_pe hX) (cO_po hX) (cO_po hX),
    he G H σ _ sl hk fun x G1 H1 s1 r1 => hl G1 H1 σ _ (sl.mono s1.le) s1.hk fun G2 H2 s2 => hh G2 H2 σ _ (sl.mono (s1.le.trans s2.le)) s2.hk fun G3 H3 s3 => by
      obtain ⟨p, vs, rfl, e1, q1⟩ := hd.at s3.hk (r1.mono (s2.le.trans s3.le))
      exact ⟨p, vs, rfl, SqL.of e1, fun z hz => k z G3 _ (s1.back (s2.back (s3.back hz))) (((s1.trans s2).trans s3).trans (s3.hk.allocO hz (q1.cut _ _)))⟩⟩
theorem ev_sliceT {ds : List D} (he : EV F e Γ W (.ok (.tup ds)) W1) (hl : EO F lo Γ W1 l W2) (hh : EO F hi Γ W2 h' W3) : EV F (.Subscript e (.Slice lo hi none p2) pos) Γ W (.ok (.tup (cutD ds l h'))) W3 :=
  fun G H σ Q sl hk k => ⟨tSl (StepS.rSlF F.K) (cE F e) (cO F lo) (cO F hi), fun X hX => pe_slice (hX.K ▸ StepS.sl_tupF) (cE_pe hX) (cO_po hX) (cO_po hX),
    he G H σ _ sl hk fun x G1 H1 s1 r1 => hl G1 H1 σ _ (sl.mono s1.le) s1.hk fun G2 H2 s2 => hh G2 H2 σ _ (sl.mono (s1.le.trans s2.le)) s2.hk fun G3 H3 s3 => by
      obtain ⟨p, vs, rfl, e1, q1⟩ := (r1.mono (s2.le.trans s3.le)).tup_inv
      refine ⟨p, vs, rfl, sqt_up s3.hk e1, fun hw => ?_, fun hw => (k.step ((s1.trans s2).trans s3)).newT s3.hk (q1.cut _ _)⟩
      refine k _ G3 H3 ((s1.trans s2).trans s3) (.tup_mk e1 ?_)
      have e : cutD ds l h' = ds := by
        unfold cutD
        rw [← q1.1, hw.1, hw.2, List.drop_zero, Nat.sub_zero, q1.1, List.take_length]
      rw [e]
      exact q1⟩
theorem ev_sliceS {z : Str} (he : EV F e Γ W (.ok (.str z)) W1) (hl : EO F lo Γ W1 l W2) (hh : EO F hi Γ W2 h' W3) (hz : z.length ≤ sizeLine) : EV F (.Subscript e (.Slice lo hi none p2) pos) Γ W (.ok (.str (cutS z l h'))) W3 :=
  fun G H σ Q sl hk k => ⟨tSl rSlS (cE F e) (cO F lo) (cO F hi), fun X hX => pe_slice sl_str (cE_pe hX) (cO_po hX) (cO_po hX),
    he G H σ _ sl hk fun x G1 H1 s1 r1 => hl G1 H1 σ _ (sl.mono s1.le) s1.hk fun G2 H2 s2 => hh G2 H2 σ _ (sl.mono (s1.le.trans s2.le)) s2.hk fun G3 H3 s3 =>
      ⟨z, r1.str_inv, hz, k _ G3 H3 ((s1.trans s2).trans s3) (.str _)⟩⟩
theorem en_step {ds : List D} {c : Option Int} (he : EV F e Γ W (.ok d) W1) (hl : EO F lo Γ W1 l W2) (hh : EO F hi Γ W2 h' W3) (hs : EO F (some st) Γ W3 c W4) (hd : AsL W4 d ds) (h0 : c ≠ some 0) : EN F (.Subscript e (.Slice lo hi (some st) p2) pos) Γ W (StepS.pickL ds l h' c) W4 :=
  fun G H σ Q sl hk k => ⟨StepS.tStL F.K (cE F e) (cO F lo) (cO F hi) (cO F (some st)), fun X hX => hX.K ▸ StepS.pe_stL (cE_pe hX) (cO_po hX) (cO_po hX) (cO_po hX),
    he G H σ _ sl hk fun x G1 H1 s1 r1 => hl G1 H1 σ _ (sl.mono s1.le) s1.hk fun G2 H2 s2 => hh G2 H2 σ _ (sl.mono (s1.le.trans s2.le)) s2.hk fun G3 H3 s3 => hs G3 H3 σ _ (sl.mono ((s1.le.trans s2.le).trans s3.le)) s3.hk fun G4 H4 s4 => by
      obtain ⟨p, vs, rfl, e1, q1⟩ := hd.at s4.hk (r1.mono ((s2.le.trans s3.le).trans s4.le))
      exact ⟨p, vs, rfl, SqL.of e1, h0, fun z hz => k z G4 _ (s1.back (s2.back (s3.back (s4.back hz)))) ((((s1.trans s2).trans s3).trans s4).trans (s4.hk.allocO hz (q1.pickL _ _ _)))⟩⟩
theorem ev_stepT {ds : List D} {c : Int} (he : EV F e Γ W (.ok (.tup ds)) W1) (hl : EO F lo Γ W1 l W2) (hh : EO F hi Γ W2 h' W3) (hs : EO F (some st) Γ W3 (some c) W4) (h0 : c ≠ 0) (hz : (StepS.pickT ds l h' c).length ≤ sizeLine)
    (hw : ((Builtin.Slice.sliceAdjust l h' c ds.length).1 == 0 && c == 1 && (Builtin.Slice.slicePlaces (Builtin.Slice.sliceAdjust l h' c ds.length).1 (Builtin.Slice.sliceAdjust l h' c ds.length).2 c) == ds.length) = true → StepS.pickT ds l h' c = ds) :
    EV F (.Subscript e (.Slice lo hi (some st) p2) pos) Γ W (.ok (.tup (StepS.pickT ds l h' c))) W4 :=
  fun G H σ Q sl hk k => ⟨StepS.tStT F.K (cE F e) (cO F lo) (cO F hi) (cO F (some st)), fun X hX => hX.K ▸ StepS.pe_stT (cE_pe hX) (cO_po hX) (cO_po hX) (cO_po hX),
    he G H σ _ sl hk fun x G1 H1 s1 r1 => hl G1 H1 σ _ (sl.mono s1.le) s1.hk fun G2 H2 s2 => hh G2 H2 σ _ (sl.mono (s1.le.trans s2.le)) s2.hk fun G3 H3 s3 => hs G3 H3 σ _ (sl.mono ((s1.le.trans s2.le).trans s3.le)) s3.hk fun G4 H4 s4 => by
      have st := ((s1.trans s2).trans s3).trans s4
      obtain ⟨p, vs, rfl, e1, q1⟩ := (r1.mono ((s2.le.trans s3.le).trans s4.le)).tup_inv
      have q2 := q1.pickT l h' c
      refine ⟨p, vs, c, rfl, sqt_up s4.hk e1, rfl, h0, by rw [q2.1]; exact hz, fun hb => ?_, fun hb => (k.step st).newT s4.hk q2⟩
      rw [q1.1] at hb
      refine k _ G4 H4 st (.tup_mk e1 ?_)
      rw [hw hb]
      exact q1⟩
end
end
end Sh
set_option Elab.async false
set_option linter.all false
set_option maxRecDepth 100000
set_option maxHeartbeats 1000000
set_option autoImplicit false
/-! ShE: calls of built-in functions and of methods of built-in types. -/
namespace StepS
open PySem PySem.Spec PyProof.Rows L2
/-- a tuple (of the written part, or made) that has no dict of its own -/
def tyT (K : PySem.W.Frag) (x : V) (H : Hp) : Prop := ∃ a, x = .ref a ∧ ((∃ (o : Obj) (vs : List V), H a = some (.frz o (.tup vs)) ∧ o.cls = .type "tuple" ∧ o.dict = none) ∨ ∃ o, K.lookup a = some o ∧ o.cls = .type "tuple" ∧ o.dict = none)
theorem tyT_is {X : Cx} {pins : List (Addr × Obj)} {σ : L2.St} {H : Hp} {s : Shared} {x : V} {v : Value} (I : Inv X pins σ H s) (r : RelV x v) (ty : tyT X.K x H) :
    s.TypeIs v "tuple" ∧ ∀ a, v = .ref a → ∃ ob, s.heap.get? a = some ob ∧ ob.dict = none := by
  obtain ⟨a, rfl, h⟩ := ty
  cases r
  rcases h with ⟨o, vs, e, h1, h2⟩ | ⟨o, e, h1, h2⟩
  · obtain ⟨e2, _⟩ := I.hok a _ e
    exact ⟨⟨o, e2, h1⟩, fun b hb => by cases hb; exact ⟨o, e2, h2⟩⟩
  · have e2 := I.kIn a o e
    exact ⟨⟨o, e2, h1⟩, fun b hb => by cases hb; exact ⟨o, e2, h2⟩⟩
def tTM (K : PySem.W.Frag) (r : V → List V → Hp → VK → Prop) (to : TE) (t : TA) : TE := fun σ H Q => to σ H fun x H1 => tyT K x H1 ∧ t σ H1 fun xs H2 => r x xs H2 Q
/-- t.m(..), t a tuple -/
theorem pe_tm {X : Cx} {o e : Expr} {es : List Expr} {to : TE} {t : TA} {name : Str} {apos cpos : Pos} {id : String} {r : V → List V → Hp → VK → Prop} (pa : PlainAttrs "tuple") (slot : Slot "tuple" name id) (hty : typeOf (.builtin id) = pure (.type "method_descriptor")) (hm : MtR X id r) (ho : PE X o to) (ha : PA X (e :: es) t)
    (hbase : attributeBase o name X.env (eval o X.env) = eval o X.env)
    (hfew : ((backTo cpos (starEach (e :: es) X.env)).all (fun x => !x.1) && (backToKw cpos (keywordEach [] X.env)).all (fun x => x.1.isSome) && decide ((e :: es).length + ([] : List Keyword).length + (if ([] : List Keyword).isEmpty then 0 else 1) < 30)) = true)
    (hline : (apos.endLine == cpos.line) = true) (hs : starEach (e :: es) X.env = (false, eval e X.env) :: starEach es X.env) (hplain : (backTo cpos (starEach es X.env)).any (·.1) = false) :
    PE X (.Call (.Attribute o name apos) (e :: es) [] cpos) (tTM X.K r to t) := by
  refine ⟨fun pins s σ H Q I h => wpAny_Call_method_late hbase hfew hline rfl (thn (ho.run pins s σ H _ I h) fun v s1 ⟨x, H1, I1, r1, ty, q1⟩ => ?_)⟩
  obtain ⟨h1, h2⟩ := tyT_is I1 r1 ty
  refine ⟨"tuple", id, pa, slot, hty, h1, h2, ?_⟩
  have hA := ha.run cpos pins s1 σ H1 _ I1 q1
  rw [hs] at hA ⊢
  refine Calls.callWith_builtin (by show (false || (backTo cpos (starEach es X.env)).any (·.1)) = false; rw [hplain] <;> rfl) (Calls.evalArgs_plain ?_)
  exact thn hA fun us s2 ⟨vs, H2, I2, r2, q2⟩ => hm pins s2 σ H2 x vs v us Q I2 r1 r2 q2
/-- t.index(x): the first place of an equal one -/
def rIndexT (K : PySem.W.Frag) : V → List V → Hp → VK → Prop := fun x xs H Q => ∃ (a : Addr) (y : V) (d : PyData) (ds : List PyData) (j : Nat) (z : PyData), x = V.ref a ∧ xs = [y] ∧ Dp K H (V.ref a) (.tuple ds) ∧ Dp K H y d ∧
  SeqAt.shaped (.tuple ds) = true ∧ SeqAt.shaped d = true ∧ ds[j]? = some z ∧ PyData.eqv z d = true ∧ (∀ (m : Nat) (z' : PyData), m < j → ds[m]? = some z' → PyData.eqv z' d = false) ∧ Q (.int (j : Nat)) H
theorem mt_indexT {X : Cx} (hu : X.A.units + 65 < cLine) : MtR X "tuple.index" (rIndexT X.K) := by
  rintro pins s σ H _ _ v us Q I rx rxs ⟨a, y, d, ds, j, z, rfl, rfl, hl, hy, sl, sd, hz, hzj, hno, q⟩
  cases rx
  obtain ⟨uy, rfl, ry⟩ := vals1 rxs
  obtain ⟨bs, r1⟩ := Dp.reads I d y uy hy ry
  have hxs : PyData.canLayAll0 ds = true := SeqAt.canLay_of_shaped sl
  have hd9 := SeqAt.depth_of_shaped sd
  have hroom : X.A.units + 1 + min (PyData.depthAll ds) d.depth < cLine := by
    have h2 : min (PyData.depthAll ds) d.depth ≤ d.depth := Nat.min_le_right _ _
    omega
  cases hl with
  | tup hs ha =>
    obtain ⟨its, rv, ⟨⟨cls, dd, data, sls⟩, ho, hc, n, hdt⟩, hlen⟩ := I.tuple hs
    simp only at hc hdt
    subst hc hdt
    obtain ⟨as, h4⟩ := Dp.readsAll I ds _ its ha rv
    have hn : its.length = ds.length := SeqAt.ReadsAll.length ds its as h4
    have hmap : its.map (SeqAt.readOf s.heap) = ds := SeqAt.readsAll_map ds its as hxs h4
    obtain ⟨hjd, _⟩ := List.getElem?_eq_some_iff.mp hz
    have hjl : j < its.length := by omega
    have hj : j < its.toArray.size := by simpa using hjl
    have at_ : ∀ (m : Nat) (hm : m < its.toArray.size) (z' : PyData), ds[m]? = some z' → SeqAt.readOf s.heap its.toArray[m] = z' := by
      intro m hm z' hz'
      have hml : m < its.length := by simpa using hm
      rw [← hmap, List.getElem?_map, List.getElem?_eq_getElem hml] at hz'
      have e1 : SeqAt.readOf s.heap its[m] = z' := Option.some.inj hz'
      simpa using e1
    refine call_meets PySem.F.slot_tuple_index ⟨_, ho, rfl⟩ PySem.F.entry_tuple_index (PySem.F.args_tuple_index_2 _ _)
      (TI.tuple_indexAt a its.toArray n dd sls uy (fun u => PyData.eqv (SeqAt.readOf s.heap u) d) j hj ?_ ?_) ⟨ho, SeqAt.items_eqAt (vs := its.toArray) (show ReadsAll s.heap its.toArray.toList ds as from h4) r1 hxs (SeqAt.canLay_of_shaped sd) hroom, ?_⟩
    · show PyData.eqv (SeqAt.readOf s.heap its.toArray[j]) d = true
      rw [at_ j hj z hz]
      exact hzj
    · intro m hm hmj
      have hml : m < ds.length := by omega
      show PyData.eqv (SeqAt.readOf s.heap its.toArray[m]) d = false
      rw [at_ m hm ds[m] (List.getElem?_eq_getElem hml)]
      exact hno m _ hmj (List.getElem?_eq_getElem hml)
    · exact ⟨.int (j : Nat), H, I.tok _, ⟨_, rfl⟩, q⟩
end StepS
namespace Sh
open PySem PySem.Spec PyProof.Rows L2
section
variable {F : CF} {Γ : Ga} {W W1 W2 W3 : OW} {pos p : Pos} {a b c e : Expr} {d d1 d2 d3 : D} {o : Out}
/-- a plain call of a built-in function, by its rule -/
theorem ev_callB {x : Str} {id : String} {r : List V → Hp → VK → Prop} {es : List Expr} {ds : List D} (hc : ∀ X, Sat F X → CallR X (.builtin id) r) (hg : GlS F x) (hm : F.mg x = none) (hv : bootBuiltins x = some (.builtin id)) (ha : EA F (e :: es) Γ W (.ok ds) W1)
    (hr : ∀ (G H : Hp) (vs : List V) (Q : VK), Hk F.K F.T G W1 H → Rps F.K G vs ds → Kont F G W1 H o W2 Q → r vs H Q) (hn : x ≠ "__name__" := by decide) (hdb : (x == ("__debug__" : Str)) = false := by decide)
    (he : ∀ env, starEach (e :: es) env = (false, eval e env) :: starEach es env := by intro _; rfl) (hpl : ∀ env, (backTo pos (starEach es env)).any (·.1) = false := by intro _; rfl) : EV F (.Call (.Name x p) (e :: es) [] pos) Γ W o W2 :=
  fun G H σ Q sl hk k => ⟨tCB r (cA F (e :: es)), fun X hX => pe_callB (hc X hX) (hX.gl hg) (by rw [hX.mg]; exact hm) hv (cA_pa hX) hn hdb (he _) (hpl _), ha G H σ _ sl hk fun vs G1 H1 s1 r1 => hr G1 H1 vs Q s1.hk r1 (k.step s1)⟩
theorem ev_callTy {x : Str} {T : String} {r : List V → Hp → VK → Prop} {es : List Expr} {ds : List D} (hc : ∀ X, Sat F X → CallR X (.type T) r) (hg : GlS F x) (hm : F.mg x = none) (hv : bootBuiltins x = some (.type T)) (ha : EA F (e :: es) Γ W (.ok ds) W1)
    (hr : ∀ (G H : Hp) (vs : List V) (Q : VK), Hk F.K F.T G W1 H → Rps F.K G vs ds → Kont F G W1 H o W2 Q → r vs H Q) (hn : x ≠ "__name__" := by decide) (hdb : (x == ("__debug__" : Str)) = false := by decide)
    (he : ∀ env, starEach (e :: es) env = (false, eval e env) :: starEach es env := by intro _; rfl) (hpl : ∀ env, (backTo pos (starEach es env)).any (·.1) = false := by intro _; rfl) : EV F (.Call (.Name x p) (e :: es) [] pos) Γ W o W2 :=
  fun G H σ Q sl hk k => ⟨tCB r (cA F (e :: es)), fun X hX => pe_callTy (hc X hX) (hX.gl hg) (by rw [hX.mg]; exact hm) hv (cA_pa hX) hn hdb (he _) (hpl _), ha G H σ _ sl hk fun vs G1 H1 s1 r1 => hr G1 H1 vs Q s1.hk r1 (k.step s1)⟩
theorem Rps.one {K : PySem.W.Frag} {G : Hp} {vs : List V} {d : D} (h : Rps K G vs [d]) : ∃ v, vs = [v] ∧ Rp K G v d := by
  obtain ⟨v, vs', rfl, r, t⟩ := h.inv
  rw [t.inv0]
  exact ⟨v, rfl, r⟩
theorem Rps.two {K : PySem.W.Frag} {G : Hp} {vs : List V} {d d' : D} (h : Rps K G vs [d, d']) : ∃ v v', vs = [v, v'] ∧ Rp K G v d ∧ Rp K G v' d' := by
  obtain ⟨v, vs', rfl, r, t⟩ := h.inv
  obtain ⟨v', rfl, r'⟩ := t.one
  exact ⟨v, v', rfl, r, r'⟩
/-- lengths -/
inductive LenD (W : OW) : D → Nat → Prop
  | lst {d : D} {ds : List D} (h : AsL W d ds) : LenD W d ds.length
  | tup (ds : List D) : LenD W (.tup ds) ds.length
  | str (z : Str) (h : z.length ≤ sizeLine) : LenD W (.str z) z.length
theorem ev_len {n : Nat} (hg : GlS F "len") (hm : F.mg "len" = none) (ha : EV F a Γ W (.ok d) W1) (h : LenD W1 d n) (he : ∀ env, starEach [a] env = (false, eval a env) :: starEach [] env := by intro _; rfl) : EV F (.Call (.Name "len" p) [a] [] pos) Γ W (.ok (.int n)) W1 := by
  cases h with
  | lst h =>
    refine ev_callB (r := fun xs H Q => ∃ p ys, xs = [.ref p] ∧ (SqL F.K H p ys ∨ SqT F.K H p ys) ∧ Q (.int ys.length) H) (fun X hX => hX.K ▸ call_len_seq) hg hm PySem.boot_len (ea_cons ha ea_nil he) (he := he) fun G H vs Q hk rs k => ?_
    obtain ⟨v, rfl, r⟩ := rs.one
    obtain ⟨q, ws, rfl, e1, q1⟩ := h.at hk r
    exact ⟨q, ws, rfl, .inl (SqL.of e1), by rw [q1.1]; exact k _ G H (.refl hk) (.int _)⟩
  | tup ds =>
    refine ev_callB (r := fun xs H Q => ∃ p ys, xs = [.ref p] ∧ (SqL F.K H p ys ∨ SqT F.K H p ys) ∧ Q (.int ys.length) H) (fun X hX => hX.K ▸ call_len_seq) hg hm PySem.boot_len (ea_cons ha ea_nil he) (he := he) fun G H vs Q hk rs k => ?_
    obtain ⟨v, rfl, r⟩ := rs.one
    obtain ⟨q, ws, rfl, e1, q1⟩ := r.tup_inv
    exact ⟨q, ws, rfl, .inr (sqt_up hk e1), by rw [q1.1]; exact k _ G H (.refl hk) (.int _)⟩
  | str z h =>
    refine ev_callB (fun X _ => call_len_str) hg hm PySem.boot_len (ea_cons ha ea_nil he) (he := he) fun G H vs Q hk rs k => ?_
    obtain ⟨v, rfl, r⟩ := rs.one
    exact ⟨z, by rw [r.str_inv], h, k _ G H (.refl hk) (.int _)⟩
/-- tuple(x) -/
theorem ev_tupleL {ds : List D} (hg : GlS F "tuple") (hm : F.mg "tuple" = none) (ha : EV F a Γ W (.ok d) W1) (h : AsL W1 d ds) (he : ∀ env, starEach [a] env = (false, eval a env) :: starEach [] env := by intro _; rfl) : EV F (.Call (.Name "tuple" p) [a] [] pos) Γ W (.ok (.tup ds)) W1 :=
  ev_callTy (r := StepS.rTupF F.K) (fun X hX => hX.K ▸ StepS.call_tupF) hg hm (by decide +kernel) (ea_cons ha ea_nil he) (he := he) fun G H vs Q hk rs k => by
    obtain ⟨v, rfl, r⟩ := rs.one
    obtain ⟨q, ws, rfl, e1, q1⟩ := h.at hk r
    exact ⟨q, ws, rfl, .inl ⟨SqL.of e1, k.newT hk q1⟩⟩
theorem ev_tupleT {ds : List D} (hg : GlS F "tuple") (hm : F.mg "tuple" = none) (ha : EV F a Γ W (.ok (.tup ds)) W1) (he : ∀ env, starEach [a] env = (false, eval a env) :: starEach [] env := by intro _; rfl) : EV F (.Call (.Name "tuple" p) [a] [] pos) Γ W (.ok (.tup ds)) W1 :=
  ev_callTy (r := StepS.rTupF F.K) (fun X hX => hX.K ▸ StepS.call_tupF) hg hm (by decide +kernel) (ea_cons ha ea_nil he) (he := he) fun G H vs Q hk rs k => by
    obtain ⟨v, rfl, r⟩ := rs.one
    obtain ⟨q, ws, rfl, e1, q1⟩ := id r.tup_inv
    exact ⟨q, ws, rfl, .inr ⟨sqt_up hk e1, k _ G H (.refl hk) r⟩⟩
/-- list(x): a new list -/
inductive SeqD (W : OW) : D → List D → Prop
  | lst {d : D} {ds : List D} (h : AsL W d ds) : SeqD W d ds
  | tup (ds : List D) : SeqD W (.tup ds) ds
theorem SeqD.at {K : PySem.W.Frag} {T : Tb} {G H : Hp} {W : OW} {d : D} {ds : List D} {v : V} (h : SeqD W d ds) (hk : Hk K T G W H) (r : Rp K G v d) : ∃ a vs, v = .ref a ∧ (SqL K H a vs ∨ SqT K H a vs) ∧ Rps K G vs ds := by
  cases h with
  | lst h =>
    obtain ⟨q, ws, rfl, e1, q1⟩ := h.at hk r
    exact ⟨q, ws, rfl, .inl (SqL.of e1), q1⟩
  | tup =>
    obtain ⟨q, ws, rfl, e1, q1⟩ := r.tup_inv
    exact ⟨q, ws, rfl, .inr (sqt_up hk e1), q1⟩
theorem en_callTy {x : Str} {T : String} {r : List V → Hp → VK → Prop} {es : List Expr} {ds zs : List D} (hc : ∀ X, Sat F X → CallR X (.type T) r) (hg : GlS F x) (hm : F.mg x = none) (hv : bootBuiltins x = some (.type T)) (ha : EA F (e :: es) Γ W (.ok ds) W1)
    (hr : ∀ (G H : Hp) (vs : List V) (Q : VK), Hk F.K F.T G W1 H → Rps F.K G vs ds → (∀ p G' H', H p = none → Step F.K F.T G W1 H G' ((p, .lst zs) :: W1) H' → Q (.ref p) H') → r vs H Q) (hn : x ≠ "__name__" := by decide) (hdb : (x == ("__debug__" : Str)) = false := by decide)
    (he : ∀ env, starEach (e :: es) env = (false, eval e env) :: starEach es env := by intro _; rfl) (hpl : ∀ env, (backTo pos (starEach es env)).any (·.1) = false := by intro _; rfl) : EN F (.Call (.Name x p) (e :: es) [] pos) Γ W zs W1 :=
  fun G H σ Q sl hk k => ⟨tCB r (cA F (e :: es)), fun X hX => pe_callTy (hc X hX) (hX.gl hg) (by rw [hX.mg]; exact hm) hv (cA_pa hX) hn hdb (he _) (hpl _), ha G H σ _ sl hk fun vs G1 H1 s1 r1 => hr G1 H1 vs Q s1.hk r1 fun q G' H' hq s => k q G' H' (s1.back hq) (s1.trans s)⟩
theorem en_callB {x : Str} {id : String} {r : List V → Hp → VK → Prop} {es : List Expr} {ds zs : List D} (hc : ∀ X, Sat F X → CallR X (.builtin id) r) (hg : GlS F x) (hm : F.mg x = none) (hv : bootBuiltins x = some (.builtin id)) (ha : EA F (e :: es) Γ W (.ok ds) W1)
    (hr : ∀ (G H : Hp) (vs : List V) (Q : VK), Hk F.K F.T G W1 H → Rps F.K G vs ds → (∀ p G' H', H p = none → Step F.K F.T G W1 H G' ((p, .lst zs) :: W1) H' → Q (.ref p) H') → r vs H Q) (hn : x ≠ "__name__" := by decide) (hdb : (x == ("__debug__" : Str)) = false := by decide)
    (he : ∀ env, starEach (e :: es) env = (false, eval e env) :: starEach es env := by intro _; rfl) (hpl : ∀ env, (backTo pos (starEach es env)).any (·.1) = false := by intro _; rfl) : EN F (.Call (.Name x p) (e :: es) [] pos) Γ W zs W1 :=
  fun G H σ Q sl hk k => ⟨tCB r (cA F (e :: es)), fun X hX => pe_callB (hc X hX) (hX.gl hg) (by rw [hX.mg]; exact hm) hv (cA_pa hX) hn hdb (he _) (hpl _), ha G H σ _ sl hk fun vs G1 H1 s1 r1 => hr G1 H1 vs Q s1.hk r1 fun q G' H' hq s => k q G' H' (s1.back hq) (s1.trans s)⟩
theorem en_list {ds : List D} (hg : GlS F "list") (hm : F.mg "list" = none) (ha : EV F a Γ W (.ok d) W1) (h : SeqD W1 d ds) (he : ∀ env, starEach [a] env = (false, eval a env) :: starEach [] env := by intro _; rfl) : EN F (.Call (.Name "list" p) [a] [] pos) Γ W ds W1 :=
  en_callTy (r := fun xs H Q => ∃ p ys, xs = [.ref p] ∧ (SqL F.K H p ys ∨ SqT F.K H p ys) ∧ ∀ l, H l = none → Q (.ref l) (upd H l (.lst ys))) (fun X hX => hX.K ▸ call_list_of) hg hm (by decide +kernel) (ea_cons ha ea_nil he) (he := he) fun G H vs Q hk rs k => by
    obtain ⟨v, rfl, r⟩ := rs.one
    obtain ⟨q, ws, rfl, e1, q1⟩ := h.at hk r
    exact ⟨q, ws, rfl, e1, fun l hl => k l G _ hl (hk.allocO hl q1)⟩
/-- sum of a list of ints -/
theorem ev_sum {ns : List Int} (hg : GlS F "sum") (hm : F.mg "sum" = none) (ha : EV F a Γ W (.ok d) W1) (h : AsL W1 d (ns.map .int)) (he : ∀ env, starEach [a] env = (false, eval a env) :: starEach [] env := by intro _; rfl) : EV F (.Call (.Name "sum" p) [a] [] pos) Γ W (.ok (.int ns.sum)) W1 :=
  ev_callB (r := rSum F.K) (fun X hX => hX.K ▸ cr_sum hX.calm) hg hm (by decide +kernel) (ea_cons ha ea_nil he) (he := he) fun G H vs Q hk rs k => by
    obtain ⟨v, rfl, r⟩ := rs.one
    obtain ⟨q, ws, rfl, e1, q1⟩ := h.at hk r
    rw [q1.ints] at e1
    exact ⟨q, ns, rfl, SqL.of e1, k _ G H (.refl hk) (.int _)⟩
theorem ev_abs {i : Int} (hg : GlS F "abs") (hm : F.mg "abs" = none) (ha : EV F a Γ W (.ok (.int i)) W1) (he : ∀ env, starEach [a] env = (false, eval a env) :: starEach [] env := by intro _; rfl) : EV F (.Call (.Name "abs" p) [a] [] pos) Γ W (.ok (.int (if i < 0 then -i else i))) W1 :=
  ev_callB (fun X _ => call_abs) hg hm (by decide +kernel) (ea_cons ha ea_nil he) (he := he) fun G H vs Q hk rs k => by
    obtain ⟨v, rfl, r⟩ := rs.one
    exact ⟨i, by rw [r.int_inv], k _ G H (.refl hk) (.int _)⟩
theorem ev_intI {i : Int} (hg : GlS F "int") (hm : F.mg "int" = none) (ha : EV F a Γ W (.ok (.int i)) W1) (he : ∀ env, starEach [a] env = (false, eval a env) :: starEach [] env := by intro _; rfl) : EV F (.Call (.Name "int" p) [a] [] pos) Γ W (.ok (.int i)) W1 :=
  ev_callTy (fun X _ => call_int1) hg hm (by decide +kernel) (ea_cons ha ea_nil he) (he := he) fun G H vs Q hk rs k => by
    obtain ⟨v, rfl, r⟩ := rs.one
    exact .inl ⟨i, by rw [r.int_inv], k _ G H (.refl hk) (.int _)⟩
theorem ev_intB {i : Bool} (hg : GlS F "int") (hm : F.mg "int" = none) (ha : EV F a Γ W (.ok (.bl i)) W1) (he : ∀ env, starEach [a] env = (false, eval a env) :: starEach [] env := by intro _; rfl) : EV F (.Call (.Name "int" p) [a] [] pos) Γ W (.ok (.int (if i then 1 else 0))) W1 :=
  ev_callTy (fun X _ => call_int1) hg hm (by decide +kernel) (ea_cons ha ea_nil he) (he := he) fun G H vs Q hk rs k => by
    obtain ⟨v, rfl, r⟩ := rs.one
    exact .inr ⟨i, by rw [r.bl_inv], k _ G H (.refl hk) (.int _)⟩
theorem ev_strI {i : Int} (hg : GlS F "str") (hm : F.mg "str" = none) (ha : EV F a Γ W (.ok (.int i)) W1) (hz : i.natAbs.log2 < 1920) (he : ∀ env, starEach [a] env = (false, eval a env) :: starEach [] env := by intro _; rfl) : EV F (.Call (.Name "str" p) [a] [] pos) Γ W (.ok (.str (toString i))) W1 :=
  ev_callTy (fun X _ => call_str_int) hg hm (by decide +kernel) (ea_cons ha ea_nil he) (he := he) fun G H vs Q hk rs k => by
    obtain ⟨v, rfl, r⟩ := rs.one
    exact ⟨i, by rw [r.int_inv], hz, k _ G H (.refl hk) (.str _)⟩
theorem ev_min2 {i j : Int} (hg : GlS F "min") (hm : F.mg "min" = none) (ha : EA F [a, b] Γ W (.ok [.int i, .int j]) W1) (he : ∀ env, starEach [a, b] env = (false, eval a env) :: starEach [b] env := by intro _; rfl) (hpl : ∀ env, (backTo pos (starEach [b] env)).any (·.1) = false := by intro _; rfl) :
    EV F (.Call (.Name "min" p) [a, b] [] pos) Γ W (.ok (.int (if j < i then j else i))) W1 :=
  ev_callB (fun X hX => call_min2 hX.calm) hg hm (by decide +kernel) ha (he := he) (hpl := hpl) fun G H vs Q hk rs k => by
    obtain ⟨v, w, rfl, r, r'⟩ := rs.two
    exact ⟨i, j, by rw [r.int_inv, r'.int_inv], k _ G H (.refl hk) (.int _)⟩
theorem ev_max2 {i j : Int} (hg : GlS F "max") (hm : F.mg "max" = none) (ha : EA F [a, b] Γ W (.ok [.int i, .int j]) W1) (he : ∀ env, starEach [a, b] env = (false, eval a env) :: starEach [b] env := by intro _; rfl) (hpl : ∀ env, (backTo pos (starEach [b] env)).any (·.1) = false := by intro _; rfl) :
    EV F (.Call (.Name "max" p) [a, b] [] pos) Γ W (.ok (.int (if j > i then j else i))) W1 :=
  ev_callB (fun X hX => call_max2 hX.calm) hg hm (by decide +kernel) ha (he := he) (hpl := hpl) fun G H vs Q hk rs k => by
    obtain ⟨v, w, rfl, r, r'⟩ := rs.two
    exact ⟨i, j, by rw [r.int_inv, r'.int_inv], k _ G H (.refl hk) (.int _)⟩
/-- sorted of ints -/
theorem en_sortI {ns ms : List Int} (hg : GlS F "sorted") (hm : F.mg "sorted" = none) (ha : EV F a Γ W (.ok d) W1) (h : AsL W1 d (ns.map .int)) (hs : ∀ ms', ms'.Perm ns → ms'.Pairwise (· ≤ ·) → ms' = ms) (he : ∀ env, starEach [a] env = (false, eval a env) :: starEach [] env := by intro _; rfl) :
    EN F (.Call (.Name "sorted" p) [a] [] pos) Γ W (ms.map .int) W1 :=
  en_callB (r := rSortedI F.K) (fun X hX => hX.K ▸ cr_sortedI) hg hm (by decide +kernel) (ea_cons ha ea_nil he) (he := he) fun G H vs Q hk rs k => by
    obtain ⟨v, rfl, r⟩ := rs.one
    obtain ⟨q, ws, rfl, e1, q1⟩ := h.at hk r
    rw [q1.ints] at e1
    refine ⟨q, ns, rfl, SqL.of e1, fun ms' l h1 h2 hl => ?_⟩
    rw [hs ms' h1 h2]
    exact k l G _ hl (hk.allocO hl (Rps.of_ints ms))

/-! ### methods -/
theorem ev_bm {T id : String} {name : Str} {r : V → List V → Hp → VK → Prop} {es : List Expr} {ds : List D} {apos : Pos} (pa : PlainAttrs T) (slot : Slot T name id) (hty : typeOf (.builtin id) = pure (.type "method_descriptor")) (hm : ∀ X, Sat F X → MtR X id r)
    (ho : EV F a Γ W (.ok d) W1) (ha : EA F (e :: es) Γ W1 (.ok ds) W2) (ht : ∀ (G H : Hp) (x : V), Hk F.K F.T G W1 H → Rp F.K G x d → tyV F.K T x H)
    (hr : ∀ (G H : Hp) (x : V) (vs : List V) (Q : VK), Hk F.K F.T G W2 H → Rp F.K G x d → Rps F.K G vs ds → Kont F G W2 H o W3 Q → r x vs H Q)
    (hbase : ∀ env, attributeBase a name env (eval a env) = eval a env := by intro _; rfl)
    (hfew : ∀ env, ((backTo pos (starEach (e :: es) env)).all (fun x => !x.1) && (backToKw pos (keywordEach [] env)).all (fun x => x.1.isSome) && decide ((e :: es).length + ([] : List Keyword).length + (if ([] : List Keyword).isEmpty then 0 else 1) < 30)) = true := by intro _; rfl)
    (hline : (apos.endLine == pos.line) = true := by rfl) (hs : ∀ env, starEach (e :: es) env = (false, eval e env) :: starEach es env := by intro _; rfl) (hpl : ∀ env, (backTo pos (starEach es env)).any (·.1) = false := by intro _; rfl) :
    EV F (.Call (.Attribute a name apos) (e :: es) [] pos) Γ W o W3 :=
  fun G H σ Q sl hk k => ⟨tBM F.K T r (cE F a) (cA F (e :: es)), fun X hX => hX.K ▸ pe_bm pa slot hty (hm X hX) (cE_pe hX) (cA_pa hX) (hbase _) (hfew _) hline (hs _) (hpl _),
    ho G H σ _ sl hk fun x G1 H1 s1 r1 => ⟨ht G1 H1 x s1.hk r1, ha G1 H1 σ _ (sl.mono s1.le) s1.hk fun vs G2 H2 s2 r2 => hr G2 H2 x vs Q s2.hk (r1.mono s2.le) r2 (k.step (s1.trans s2))⟩⟩
theorem ev_bm0 {T id : String} {name : Str} {r : V → List V → Hp → VK → Prop} {apos : Pos} (pa : PlainAttrs T) (slot : Slot T name id) (hty : typeOf (.builtin id) = pure (.type "method_descriptor")) (hm : ∀ X, Sat F X → MtR X id r)
    (ho : EV F a Γ W (.ok d) W1) (ht : ∀ (G H : Hp) (x : V), Hk F.K F.T G W1 H → Rp F.K G x d → tyV F.K T x H)
    (hr : ∀ (G H : Hp) (x : V) (Q : VK), Hk F.K F.T G W1 H → Rp F.K G x d → Kont F G W1 H o W3 Q → r x [] H Q)
    (hbase : ∀ env, attributeBase a name env (eval a env) = eval a env := by intro _; rfl) (hline : (apos.endLine == pos.line) = true := by rfl) : EV F (.Call (.Attribute a name apos) [] [] pos) Γ W o W3 :=
  fun G H σ Q sl hk k => ⟨tBM0 F.K T r (cE F a), fun X hX => hX.K ▸ pe_bm0 pa slot hty (hm X hX) (cE_pe hX) (hbase _) hline,
    ho G H σ _ sl hk fun x G1 H1 s1 r1 => ⟨ht G1 H1 x s1.hk r1, hr G1 H1 x Q s1.hk r1 (k.step s1)⟩⟩
theorem ty_list {ds : List D} (h : AsL W d ds) (G H : Hp) (x : V) (hk : Hk F.K F.T G W H) (r : Rp F.K G x d) : tyV F.K "list" x H := by
  obtain ⟨q, ws, rfl, e1, _⟩ := h.at hk r
  exact .inl ⟨rfl, ws, SqL.of e1⟩
theorem ty_str {z : Str} (G H : Hp) (x : V) (hk : Hk F.K F.T G W H) (r : Rp F.K G x (.str z)) : tyV F.K "str" x H := by
  rw [r.str_inv]
  exact rfl
/-- xs.index(y), xs a list, a tuple -/
theorem ev_lindex {y : D} {j : Nat} {py : PyData} {ps : List PyData} {q : PyData} {apos : Pos} (ho : EV F a Γ W (.ok d) W1) (ha : EV F e Γ W1 (.ok y) W2) {ds1 : List D} (hl1 : AsL W1 d ds1) (h1 : Py W2 d (.list ps)) (h2 : Py W2 y py) (s1 : SeqAt.shaped (.list ps) = true) (s2 : SeqAt.shaped py = true)
    (hj : ps[j]? = some q) (hq : PyData.eqv q py = true) (hn : ∀ (m : Nat) (z : PyData), m < j → ps[m]? = some z → PyData.eqv z py = false)
    (hbase : ∀ env, attributeBase a "index" env (eval a env) = eval a env := by intro _; rfl)
    (hfew : ∀ env, ((backTo pos (starEach [e] env)).all (fun x => !x.1) && (backToKw pos (keywordEach [] env)).all (fun x => x.1.isSome) && decide ([e].length + ([] : List Keyword).length + (if ([] : List Keyword).isEmpty then 0 else 1) < 30)) = true := by intro _; rfl)
    (hline : (apos.endLine == pos.line) = true := by rfl) (hs : ∀ env, starEach [e] env = (false, eval e env) :: starEach [] env := by intro _; rfl) : EV F (.Call (.Attribute a "index" apos) [e] [] pos) Γ W (.ok (.int j)) W2 :=
  ev_bm (r := rIndexD F.K) PySem.F.plainAttrs_list PySem.F.slot_list_index PySem.F.type_list_index (fun X hX => hX.K ▸ mt_indexD hX.un) ho (ea_cons ha ea_nil hs) (ty_list hl1) (fun G H x vs Q hk rx rs k => by
    obtain ⟨v, rfl, r⟩ := rs.one
    have hd := h1.dp hk rx
    rcases hl1 with rfl | ⟨b, i, rfl, _⟩
    · obtain ⟨b, ws, rfl, _, _⟩ := rx.lst_inv
      exact ⟨_, v, py, ps, j, q, rfl, rfl, hd, h2.dp hk r, s1, s2, hj, hq, hn, k _ G H (.refl hk) (.int _)⟩
    · obtain rfl := rx.ptr_inv
      exact ⟨_, v, py, ps, j, q, rfl, rfl, hd, h2.dp hk r, s1, s2, hj, hq, hn, k _ G H (.refl hk) (.int _)⟩) hbase hfew hline hs
theorem ev_tindex {ds : List D} {y : D} {j : Nat} {py : PyData} {ps : List PyData} {q : PyData} {apos : Pos} (ho : EV F a Γ W (.ok (.tup ds)) W1) (ha : EV F e Γ W1 (.ok y) W2) (h1 : Py W2 (.tup ds) (.tuple ps)) (h2 : Py W2 y py) (s1 : SeqAt.shaped (.tuple ps) = true) (s2 : SeqAt.shaped py = true)
    (hj : ps[j]? = some q) (hq : PyData.eqv q py = true) (hn : ∀ (m : Nat) (z : PyData), m < j → ps[m]? = some z → PyData.eqv z py = false)
    (hbase : ∀ env, attributeBase a "index" env (eval a env) = eval a env := by intro _; rfl)
    (hfew : ∀ env, ((backTo pos (starEach [e] env)).all (fun x => !x.1) && (backToKw pos (keywordEach [] env)).all (fun x => x.1.isSome) && decide ([e].length + ([] : List Keyword).length + (if ([] : List Keyword).isEmpty then 0 else 1) < 30)) = true := by intro _; rfl)
    (hline : (apos.endLine == pos.line) = true := by rfl) (hs : ∀ env, starEach [e] env = (false, eval e env) :: starEach [] env := by intro _; rfl) : EV F (.Call (.Attribute a "index" apos) [e] [] pos) Γ W (.ok (.int j)) W2 :=
  fun G H σ Q sl hk k => ⟨StepS.tTM F.K (StepS.rIndexT F.K) (cE F a) (cA F [e]), fun X hX => hX.K ▸ StepS.pe_tm PySem.F.plainAttrs_tuple PySem.F.slot_tuple_index PySem.F.type_tuple_index (StepS.mt_indexT hX.un) (cE_pe hX) (cA_pa hX) (hbase _) (hfew _) hline (hs _) rfl,
    ho G H σ _ sl hk fun x G1 H1 t1 r1 => by
      refine ⟨?_, (ea_cons ha ea_nil hs) G1 H1 σ _ (sl.mono t1.le) t1.hk fun vs G2 H2 t2 rs => ?_⟩
      · obtain ⟨b, ws, rfl, e1, _⟩ := r1.tup_inv
        rcases e1 with ⟨o, e2, e3⟩ | ⟨o, its, n, e2, e3, e4, _⟩
        · exact ⟨b, rfl, .inl ⟨o, ws, t1.hk.sub _ _ e2, e3⟩⟩
        · exact ⟨b, rfl, .inr ⟨o, e2, e3, e4⟩⟩
      · obtain ⟨v, rfl, r⟩ := rs.one
        have rx := r1.mono t2.le
        have hd := h1.dp t2.hk rx
        obtain ⟨b, ws, rfl, _, _⟩ := rx.tup_inv
        exact ⟨b, v, py, ps, j, q, rfl, rfl, hd, h2.dp t2.hk r, s1, s2, hj, hq, hn, k _ G2 H2 (t1.trans t2) (.int _)⟩⟩
/-- z.index(y) of texts -/
theorem ev_sindex {z y : Str} {i : Nat} {rest : List Nat} {apos : Pos} (ho : EV F a Γ W (.ok (.str z)) W1) (ha : EV F e Γ W1 (.ok (.str y)) W2) (h : Builtin.Str.occurrences z y 0 z.length 1 = i :: rest)
    (hbase : ∀ env, attributeBase a "index" env (eval a env) = eval a env := by intro _; rfl)
    (hfew : ∀ env, ((backTo pos (starEach [e] env)).all (fun x => !x.1) && (backToKw pos (keywordEach [] env)).all (fun x => x.1.isSome) && decide ([e].length + ([] : List Keyword).length + (if ([] : List Keyword).isEmpty then 0 else 1) < 30)) = true := by intro _; rfl)
    (hline : (apos.endLine == pos.line) = true := by rfl) (hs : ∀ env, starEach [e] env = (false, eval e env) :: starEach [] env := by intro _; rfl) : EV F (.Call (.Attribute a "index" apos) [e] [] pos) Γ W (.ok (.int i)) W2 :=
  ev_bm PySem.F.plainAttrs_str PySem.F.slot_str_index PySem.F.type_str_index (fun X hX => mt_sindex) ho (ea_cons ha ea_nil hs) (fun G H x hk r => ty_str (F := F) G H x hk r) (fun G H x vs Q hk rx rs k => by
    obtain ⟨v, rfl, r⟩ := rs.one
    exact ⟨z, y, i, rest, rx.str_inv, by rw [r.str_inv], h, k _ G H (.refl hk) (.int _)⟩) hbase hfew hline hs
theorem ev_scount {z y : Str} {apos : Pos} (ho : EV F a Γ W (.ok (.str z)) W1) (ha : EV F e Γ W1 (.ok (.str y)) W2)
    (hbase : ∀ env, attributeBase a "count" env (eval a env) = eval a env := by intro _; rfl)
    (hfew : ∀ env, ((backTo pos (starEach [e] env)).all (fun x => !x.1) && (backToKw pos (keywordEach [] env)).all (fun x => x.1.isSome) && decide ([e].length + ([] : List Keyword).length + (if ([] : List Keyword).isEmpty then 0 else 1) < 30)) = true := by intro _; rfl)
    (hline : (apos.endLine == pos.line) = true := by rfl) (hs : ∀ env, starEach [e] env = (false, eval e env) :: starEach [] env := by intro _; rfl) : EV F (.Call (.Attribute a "count" apos) [e] [] pos) Γ W (.ok (.int (Txt.count z y))) W2 :=
  ev_bm PySem.F.plainAttrs_str PySem.F.slot_str_count PySem.F.type_str_count (fun X hX => mt_count) ho (ea_cons ha ea_nil hs) (fun G H x hk r => ty_str (F := F) G H x hk r) (fun G H x vs Q hk rx rs k => by
    obtain ⟨v, rfl, r⟩ := rs.one
    exact ⟨z, y, rx.str_inv, by rw [r.str_inv], k _ G H (.refl hk) (.int _)⟩) hbase hfew hline hs
theorem ev_lcount {ns : List Int} {y : Int} {apos : Pos} (ho : EV F a Γ W (.ok d) W1) (hl1 : AsL W1 d (ns.map .int)) (ha : EV F e Γ W1 (.ok (.int y)) W2) (hl : AsL W2 d (ns.map .int))
    (hbase : ∀ env, attributeBase a "count" env (eval a env) = eval a env := by intro _; rfl)
    (hfew : ∀ env, ((backTo pos (starEach [e] env)).all (fun x => !x.1) && (backToKw pos (keywordEach [] env)).all (fun x => x.1.isSome) && decide ([e].length + ([] : List Keyword).length + (if ([] : List Keyword).isEmpty then 0 else 1) < 30)) = true := by intro _; rfl)
    (hline : (apos.endLine == pos.line) = true := by rfl) (hs : ∀ env, starEach [e] env = (false, eval e env) :: starEach [] env := by intro _; rfl) : EV F (.Call (.Attribute a "count" apos) [e] [] pos) Γ W (.ok (.int (ns.count y : Nat))) W2 :=
  ev_bm (r := rCntI F.K) PySem.F.plainAttrs_list PySem.F.slot_list_count PySem.F.type_list_count (fun X hX => hX.K ▸ mt_lcount) ho (ea_cons ha ea_nil hs) (ty_list hl1) (fun G H x vs Q hk rx rs k => by
    obtain ⟨v, rfl, r⟩ := rs.one
    obtain ⟨q, ws, rfl, e1, q1⟩ := hl.at hk rx
    rw [q1.ints] at e1
    exact ⟨q, ns, y, rfl, by rw [r.int_inv], SqL.of e1, k _ G H (.refl hk) (.int _)⟩) hbase hfew hline hs
/-- z.join(xs) -/
theorem ev_join {z : Str} {ys : List Str} {apos : Pos} (ho : EV F a Γ W (.ok (.str z)) W1) (ha : EV F e Γ W1 (.ok d) W2) (h : SeqD W2 d (ys.map .str)) (hz : (ys.map (·.length)).sum + ys.length * z.length ≤ 16777216)
    (hs : ∀ env, starEach [e] env = [(false, eval e env)] := by intro _; rfl) (hbase : ∀ env, attributeBase a "join" env (eval a env) = eval a env := by intro _; rfl) (hline : (apos.endLine == pos.line) = true := by rfl) :
    EV F (.Call (.Attribute a "join" apos) [e] [] pos) Γ W (.ok (.str (Txt.join z ys))) W2 :=
  fun G H σ Q sl hk k => ⟨tM1 (fun x xs H Q => ∃ a p, ∃ ys : List Str, x = .str a ∧ xs = [.ref p] ∧ (SqL F.K H p (ys.map V.str) ∨ SqT F.K H p (ys.map V.str)) ∧ (ys.map (·.length)).sum + ys.length * a.length ≤ 16777216 ∧ Q (.str (Txt.join a ys)) H) (cE F a) (cE F e),
    fun X hX => hX.K ▸ pe_join (cE_pe hX) (cE_pe hX) (hs _) (hbase _) hline, ho G H σ _ sl hk fun x G1 H1 s1 r1 => ⟨⟨z, r1.str_inv⟩, ha G1 H1 σ _ (sl.mono s1.le) s1.hk fun y G2 H2 s2 r2 => by
      obtain ⟨q, ws, rfl, e1, q1⟩ := h.at s2.hk r2
      rw [q1.strs] at e1
      exact ⟨z, q, ys, r1.str_inv, rfl, e1, hz, k _ G2 H2 (s1.trans s2) (.str _)⟩⟩⟩
/-- z.split(y) -/
theorem en_split {z y : Str} {apos : Pos} (ho : EV F a Γ W (.ok (.str z)) W1) (ha : EV F e Γ W1 (.ok (.str y)) W2) (hy : (y.length == 0) = false) (hz : z.length + 2 ≤ sizeLine)
    (hs : ∀ env, starEach [e] env = [(false, eval e env)] := by intro _; rfl) (hbase : ∀ env, attributeBase a "split" env (eval a env) = eval a env := by intro _; rfl) (hline : (apos.endLine == pos.line) = true := by rfl) :
    EN F (.Call (.Attribute a "split" apos) [e] [] pos) Γ W ((Txt.split z y).map .str) W2 :=
  fun G H σ Q sl hk k => ⟨_, fun X hX => pe_split (cE_pe hX) (cE_pe hX) (hs _) (hbase _) hline, ho G H σ _ sl hk fun x G1 H1 s1 r1 => ⟨⟨z, r1.str_inv⟩, ha G1 H1 σ _ (sl.mono s1.le) s1.hk fun v G2 H2 s2 r2 =>
      ⟨z, y, r1.str_inv, by rw [r2.str_inv], hy, hz, fun l hl => k l G2 _ (s1.back (s2.back hl)) ((s1.trans s2).trans (s2.hk.allocO hl (Rps.of_strs _)))⟩⟩⟩
end
end Sh
set_option Elab.async false
set_option linter.all false
set_option maxRecDepth 100000
set_option maxHeartbeats 1000000
set_option autoImplicit false
/-! ShS: statements, targets, loops. -/
namespace Sh
open PySem PySem.Spec PyProof.Rows L2

/-- a def's body -/
structure SatS (F : CF) (X : Cx) : Prop extends Sat F X where
  nd : X.N.Nodup
  fn : ∀ x, X.fn x = true
  own : PassesOwn (model X.prog X.w) X.A X.env X.xe
  tk : Takes X (fun cls d _ H => F.E cls d H)
  stk : X.stack = X.env :: X.outer
  frm : X.env.frame = some X.env.locals
/-- what is wanted behind a statement -/
structure AE where
  nx : Ga → OW → Prop
  rt : D → OW → Prop
  bk : Ga → OW → Prop := fun _ _ => False
  ct : Ga → OW → Prop := fun _ _ => False
  er : Addr → OW → Prop := fun _ _ => False
structure OkE (F : CF) (A : AE) (G : Hp) (W : OW) (H : Hp) (De : Ends) : Prop where
  nx : ∀ Γ' W' G' H' σ', A.nx Γ' W' → Step F.K F.T G W H G' W' H' → Slots F.K G' Γ' σ' → De.nx σ' H'
  rt : ∀ d W' v G' H', A.rt d W' → Step F.K F.T G W H G' W' H' → Rp F.K G' v d → De.rt v H'
  bk : ∀ Γ' W' G' H' σ', A.bk Γ' W' → Step F.K F.T G W H G' W' H' → Slots F.K G' Γ' σ' → De.bk σ' H'
  ct : ∀ Γ' W' G' H' σ', A.ct Γ' W' → Step F.K F.T G W H G' W' H' → Slots F.K G' Γ' σ' → De.ct σ' H'
  er : ∀ c W' G' H', A.er c W' → Step F.K F.T G W H G' W' H' → F.E (.ref c) none H'
theorem OkE.step {F : CF} {A : AE} {G G1 : Hp} {W W1 : OW} {H H1 : Hp} {De : Ends} (k : OkE F A G W H De) (s : Step F.K F.T G W H G1 W1 H1) : OkE F A G1 W1 H1 De :=
  ⟨fun Γ' W' G' H' σ' a t b => k.nx Γ' W' G' H' σ' a (s.trans t) b, fun d W' v G' H' a t b => k.rt d W' v G' H' a (s.trans t) b, fun Γ' W' G' H' σ' a t b => k.bk Γ' W' G' H' σ' a (s.trans t) b,
    fun Γ' W' G' H' σ' a t b => k.ct Γ' W' G' H' σ' a (s.trans t) b, fun c W' G' H' a t => k.er c W' G' H' a (s.trans t)⟩
def cS (F : CF) (st : Stmt) : TS := fun De σ H => ∃ t : TS, (∀ X, SatS F X → PS X st t) ∧ t De σ H
def cSs (F : CF) (st : List Stmt) : TS := fun De σ H => ∃ t : TS, (∀ X, SatS F X → PSs X st t) ∧ t De σ H
theorem cS_ps {F : CF} {X : Cx} {st : Stmt} (h : SatS F X) : PS X st (cS F st) := ⟨fun pins s σ H De I ⟨_, ht, q⟩ => (ht X h).run pins s σ H De I q⟩
theorem cSs_pss {F : CF} {X : Cx} {st : List Stmt} (h : SatS F X) : PSs X st (cSs F st) := ⟨fun pins s σ H De I ⟨_, ht, q⟩ => (ht X h).run pins s σ H De I q⟩
def S1 (F : CF) (st : Stmt) (Γ : Ga) (W : OW) (A : AE) : Prop := ∀ (G H : Hp) (σ : L2.St) (De : Ends), Slots F.K G Γ σ → Hk F.K F.T G W H → OkE F A G W H De → cS F st De σ H
def SS (F : CF) (st : List Stmt) (Γ : Ga) (W : OW) (A : AE) : Prop := ∀ (G H : Hp) (σ : L2.St) (De : Ends), Slots F.K G Γ σ → Hk F.K F.T G W H → OkE F A G W H De → cSs F st De σ H

/-- an expression: what its value and what is owned behind it may be -/
def EVR (F : CF) (e : Expr) (Γ : Ga) (W : OW) (P : D → OW → Prop) : Prop := ∀ (G H : Hp) (σ : L2.St) (Q : VK), Slots F.K G Γ σ → Hk F.K F.T G W H → (∀ d W' v G' H', P d W' → Step F.K F.T G W H G' W' H' → Rp F.K G' v d → Q v H') → cE F e σ H Q
def EAR (F : CF) (es : List Expr) (Γ : Ga) (W : OW) (P : List D → OW → Prop) : Prop := ∀ (G H : Hp) (σ : L2.St) (Q : List V → Hp → Prop), Slots F.K G Γ σ → Hk F.K F.T G W H → (∀ ds W' vs G' H', P ds W' → Step F.K F.T G W H G' W' H' → Rps F.K G' vs ds → Q vs H') → cA F es σ H Q
section
variable {F : CF} {Γ : Ga} {W W1 W2 W3 : OW} {pos p : Pos} {a b c e : Expr} {d d1 d2 d3 : D} {o : Out} {A : AE}
theorem evr_of {P : D → OW → Prop} (h : EV F e Γ W (.ok d) W1) (hp : P d W1) : EVR F e Γ W P := fun G H σ Q sl hk k => h G H σ Q sl hk fun v G' H' s r => k d W1 v G' H' hp s r
theorem evr_new {P : D → OW → Prop} {ds : List D} (h : EN F e Γ W ds W1) (hp : ∀ q, P (.ptr q) ((q, .lst ds) :: W1)) : EVR F e Γ W P := fun G H σ Q sl hk k => h G H σ Q sl hk fun q G' H' _ s => k _ _ _ _ _ (hp q) s (.ptr q)
theorem ear_of {P : List D → OW → Prop} {es : List Expr} {ds : List D} (h : EA F es Γ W (.ok ds) W1) (hp : P ds W1) : EAR F es Γ W P := fun G H σ Q sl hk k => h G H σ Q sl hk fun v G' H' s r => k ds W1 v G' H' hp s r
theorem ear_nil {P : List D → OW → Prop} (hp : P [] W) : EAR F [] Γ W P := ear_of ea_nil hp
theorem ear_cons {P : List D → OW → Prop} {es : List Expr} (h : EVR F e Γ W (fun d W' => EAR F es Γ W' (fun ds W2 => P (d :: ds) W2))) (hs : ∀ env, starEach (e :: es) env = (false, eval e env) :: starEach es env := by intro _; rfl) : EAR F (e :: es) Γ W P :=
  fun G H σ Q sl hk k => ⟨tCons (cE F e) (cA F es), fun X hX => pa_cons (cE_pe hX) (cA_pa hX) (hs _),
    h G H σ _ sl hk fun d W1 v G1 H1 t s1 r1 => t G1 H1 σ _ (sl.mono s1.le) s1.hk fun ds W2 vs G2 H2 hp s2 r2 => k _ W2 _ G2 H2 hp (s1.trans s2) (r2.cons (r1.mono s2.le))⟩

/-! ### blocks -/
theorem ss_nil (h : A.nx Γ W) : SS F [] Γ W A := fun G H σ De sl hk k => ⟨tNext, fun X _ => pss_nil, k.nx Γ W G H σ h (.refl hk) sl⟩
theorem ss_cons {st : Stmt} {rest : List Stmt} (h : S1 F st Γ W { A with nx := fun Γ' W' => SS F rest Γ' W' A }) : SS F (st :: rest) Γ W A :=
  fun G H σ De sl hk k => ⟨tSeq (cS F st) (cSs F rest), fun X hX => pss_cons (cS_ps hX) (cSs_pss hX), h G H σ { De with nx := cSs F rest De } sl hk
    ⟨fun Γ' W' G' H' σ' h' t sl' => h' G' H' σ' De sl' t.hk (k.step t), k.rt, k.bk, k.ct, k.er⟩⟩
theorem ss_one {st : Stmt} (h : S1 F st Γ W A) : SS F [st] Γ W A := fun G H σ De sl hk k => ⟨cS F st, fun X hX => pss_one (cS_ps hX), h G H σ De sl hk k⟩
/-- less is wanted -/
theorem OkE.imp {A A' : AE} {G H : Hp} {De : Ends} (k : OkE F A G W H De) (h1 : ∀ Γ' W', A'.nx Γ' W' → A.nx Γ' W') (h2 : ∀ d W', A'.rt d W' → A.rt d W') (h3 : ∀ Γ' W', A'.bk Γ' W' → A.bk Γ' W') (h4 : ∀ Γ' W', A'.ct Γ' W' → A.ct Γ' W') (h5 : ∀ c W', A'.er c W' → A.er c W') : OkE F A' G W H De :=
  ⟨fun Γ' W' G' H' σ' x => k.nx Γ' W' G' H' σ' (h1 _ _ x), fun d W' v G' H' x => k.rt d W' v G' H' (h2 _ _ x), fun Γ' W' G' H' σ' x => k.bk Γ' W' G' H' σ' (h3 _ _ x), fun Γ' W' G' H' σ' x => k.ct Γ' W' G' H' σ' (h4 _ _ x), fun c W' G' H' x => k.er c W' G' H' (h5 _ _ x)⟩
theorem SS.imp {A' : AE} {st : List Stmt} (h : SS F st Γ W A) (h1 : ∀ Γ' W', A.nx Γ' W' → A'.nx Γ' W') (h2 : ∀ d W', A.rt d W' → A'.rt d W') (h3 : ∀ Γ' W', A.bk Γ' W' → A'.bk Γ' W') (h4 : ∀ Γ' W', A.ct Γ' W' → A'.ct Γ' W') (h5 : ∀ c W', A.er c W' → A'.er c W') : SS F st Γ W A' :=
  fun G H σ De sl hk k => h G H σ De sl hk (k.imp h1 h2 h3 h4 h5)
/-- what is owned in another order; some of it forgotten -/
theorem SS.perm {st : List Stmt} (h : SS F st Γ W1 A) (q : W.Perm W1) : SS F st Γ W A := fun G H σ De sl hk k =>
  h G H σ De sl (hk.perm q) (k.step ((Step.refl hk).perm (List.Perm.refl _) q))
theorem SS.drop {st : List Stmt} (h : SS F st Γ W1 A) (q : W1.Sublist W) : SS F st Γ W A := fun G H σ De sl hk k => h G H σ De sl (hk.less q) (k.step ((Step.refl hk).drop q))
theorem SS.less {Γ' : Ga} {st : List Stmt} (h : SS F st Γ' W A) (l : Lq Γ Γ') : SS F st Γ W A := fun G H σ De sl hk k => h G H σ De (sl.less l) hk k
/-- an owned list is frozen: slots that hold it may be told so -/
def thawed (q : Addr) (ds : List D) (Γ Γ' : Ga) : Prop := Γ'.length = Γ.length ∧ ∀ (i : Nat) (d : D), Γ'[i]? = some (some d) → Γ[i]? = some (some d) ∨ (Γ[i]? = some (some (.ptr q)) ∧ d = .lst ds)
theorem SS.freeze {Γ' : Ga} {st : List Stmt} {i : Nat} {q : Addr} {ds : List D} (hi : W[i]? = some (q, .lst ds)) (h : SS F st Γ' (W.eraseIdx i) A) (ht : thawed q ds Γ Γ') : SS F st Γ W A := fun G H σ De sl hk k => by
  obtain ⟨o, e, r, s⟩ := hk.freeze hi
  obtain ⟨vs, rfl, r⟩ := r.lst_inv
  refine h _ H σ De ⟨ht.1.trans sl.1, fun j d hj => ?_⟩ s.hk (k.step s)
  rcases ht.2 j d hj with z | ⟨z, rfl⟩
  · obtain ⟨v, e1, r1⟩ := sl.2 j d z
    exact ⟨v, e1, r1.mono s.le⟩
  · obtain ⟨v, e1, r1⟩ := sl.2 j _ z
    obtain rfl := r1.ptr_inv
    exact ⟨_, e1, .lst_mk upd_same (r.mono s.le)⟩

/-! ### small statements -/
theorem s1_expr (h : EVR F e Γ W (fun _ W' => A.nx Γ W')) (hs : ∀ env, swapsWith e none pos.line env = pure false := by intro _; rfl) : S1 F (.Expr e pos) Γ W A :=
  fun G H σ De sl hk k => ⟨tDrop (cE F e), fun X hX => ps_expr (cE_pe hX.toSat) (hs _), h G H σ _ sl hk fun d W' v G' H' hp s r => k.nx Γ W' G' H' σ hp s (sl.mono s.le)⟩
theorem s1_exprE {cl : Addr} (h : EV F e Γ W (.er cl) W1) (he : A.er cl W1) (hs : ∀ env, swapsWith e none pos.line env = pure false := by intro _; rfl) : S1 F (.Expr e pos) Γ W A :=
  fun G H σ De sl hk k => ⟨tDrop (cE F e), fun X hX => ps_expr (cE_pe hX.toSat) (hs _), h G H σ _ sl hk fun G' H' s => k.er cl W1 G' H' he s⟩
theorem s1_ret (h : EVR F e Γ W A.rt) : S1 F (.Return (some e) pos) Γ W A :=
  fun G H σ De sl hk k => ⟨tRet (cE F e), fun X hX => ps_ret (cE_pe hX.toSat), h G H σ _ sl hk fun d W' v G' H' hp s r => k.rt d W' v G' H' hp s r⟩
theorem s1_retE {cl : Addr} (h : EV F e Γ W (.er cl) W1) (he : A.er cl W1) : S1 F (.Return (some e) pos) Γ W A :=
  fun G H σ De sl hk k => ⟨tRet (cE F e), fun X hX => ps_ret (cE_pe hX.toSat), h G H σ _ sl hk fun G' H' s => k.er cl W1 G' H' he s⟩
theorem s1_pass (h : A.nx Γ W) : S1 F (.Pass pos) Γ W A := fun G H σ De sl hk k => ⟨tNext, fun X hX => ps_pass, k.nx Γ W G H σ h (.refl hk) sl⟩
theorem s1_break (h : A.bk Γ W) : S1 F (.Break pos) Γ W A := fun G H σ De sl hk k => ⟨tBreak, fun X hX => ps_break, k.bk Γ W G H σ h (.refl hk) sl⟩
theorem s1_cont (h : A.ct Γ W) : S1 F (.Continue pos) Γ W A := fun G H σ De sl hk k => ⟨tCont, fun X hX => ps_continue, k.ct Γ W G H σ h (.refl hk) sl⟩
theorem s1_ifT {t u : List Stmt} (hc : ET F c Γ W (.ok true) W1) (h : SS F t Γ W1 A) : S1 F (.If c t u pos) Γ W A :=
  fun G H σ De sl hk k => ⟨tIfS (cT F c) (cSs F t) (cSs F u), fun X hX => ps_if (cT_pt hX.toSat) (cSs_pss hX) (cSs_pss hX), hc G H σ _ sl hk fun G1 H1 s1 => by
    rw [if_pos rfl]
    exact h G1 H1 σ De (sl.mono s1.le) s1.hk (k.step s1)⟩
theorem s1_ifF {t u : List Stmt} (hc : ET F c Γ W (.ok false) W1) (h : SS F u Γ W1 A) : S1 F (.If c t u pos) Γ W A :=
  fun G H σ De sl hk k => ⟨tIfS (cT F c) (cSs F t) (cSs F u), fun X hX => ps_if (cT_pt hX.toSat) (cSs_pss hX) (cSs_pss hX), hc G H σ _ sl hk fun G1 H1 s1 => by
    rw [if_neg Bool.false_ne_true]
    exact h G1 H1 σ De (sl.mono s1.le) s1.hk (k.step s1)⟩
theorem s1_if {t u : List Stmt} {r : Bool} (hc : ET F c Γ W (.ok r) W1) (h1 : r = true → SS F t Γ W1 A) (h2 : r = false → SS F u Γ W1 A) : S1 F (.If c t u pos) Γ W A := by
  cases r with
  | true => exact s1_ifT hc (h1 rfl)
  | false => exact s1_ifF hc (h2 rfl)
theorem s1_ifE {t u : List Stmt} {cl : Addr} (hc : ET F c Γ W (.er cl) W1) (he : A.er cl W1) : S1 F (.If c t u pos) Γ W A :=
  fun G H σ De sl hk k => ⟨tIfS (cT F c) (cSs F t) (cSs F u), fun X hX => ps_if (cT_pt hX.toSat) (cSs_pss hX) (cSs_pss hX), hc G H σ _ sl hk fun G1 H1 s1 => k.er cl W1 G1 H1 he s1⟩

/-! ### names -/
def LocS (sc : Scope) (x : Str) : Prop := sc.names.lookup x = some .local ∨ sc.names.lookup x = some .cell
theorem SatS.loc {X : Cx} (h : SatS F X) {x : Str} (l : LocS F.sc x) : L2.Loc X.env.scope x := by
  unfold L2.Loc
  rw [h.sc]
  exact l
theorem s1_set (i : Nat) {x : Str} {pos' : Pos} (hi : F.N[i]? = some x) (hx : LocS F.sc x) (h : EVR F e Γ W (fun d W' => A.nx (Γ.set i (some d)) W')) (hs : ∀ env : Env, env.scope = F.sc → swapsWith e (some (.Name x pos')) pos.line env = pure false := by intro _ _; rfl) : S1 F (.Assign [.Name x pos'] e pos) Γ W A :=
  fun G H σ De sl hk k => ⟨tAsg (cE F e) (gName i), fun X hX => ps_set hX.nd (by rw [hX.N]; exact hi) (hX.loc hx) (cE_pe hX.toSat) (hs _ hX.sc) (.inl (hX.fn x)),
    h G H σ _ sl hk fun d W' v G' H' hp s r => k.nx _ W' G' H' _ hp s ((sl.mono s.le).put i r)⟩
theorem s1_setE (i : Nat) {x : Str} {pos' : Pos} {cl : Addr} (hi : F.N[i]? = some x) (hx : LocS F.sc x) (h : EV F e Γ W (.er cl) W1) (he : A.er cl W1) (hs : ∀ env : Env, env.scope = F.sc → swapsWith e (some (.Name x pos')) pos.line env = pure false := by intro _ _; rfl) : S1 F (.Assign [.Name x pos'] e pos) Γ W A :=
  fun G H σ De sl hk k => ⟨tAsg (cE F e) (gName i), fun X hX => ps_set hX.nd (by rw [hX.N]; exact hi) (hX.loc hx) (cE_pe hX.toSat) (hs _ hX.sc) (.inl (hX.fn x)), h G H σ _ sl hk fun G' H' s => k.er cl W1 G' H' he s⟩
/-- a, b = x, y -/
theorem s1_par (i j : Nat) {x y : Str} {px py pt pt2 : Pos} {kt k2 : Nat} (hi : F.N[i]? = some x) (hj : F.N[j]? = some y) (hij : i ≠ j) (hx : F.sc.names.lookup x = some .local) (hy : F.sc.names.lookup y = some .local)
    (h : EAR F [a, b] Γ W (fun ds W' => ∃ d d', ds = [d, d'] ∧ A.nx ((Γ.set i (some d)).set j (some d')) W'))
    (hw : ∀ env : Env, env.scope = F.sc → swappedStores [.Tuple [.Name x px, .Name y py] kt pt] (.Tuple [a, b] k2 pt2) env = pure (some [x, y]))
    (hs : ∀ env, swapsWithSole [.Tuple [.Name x px, .Name y py] kt pt] (.Tuple [a, b] k2 pt2) pos.line env = pure false := by intro _; rfl) : S1 F (.Assign [.Tuple [.Name x px, .Name y py] kt pt] (.Tuple [a, b] k2 pt2) pos) Γ W A :=
  fun G H σ De sl hk k => ⟨tPar i j (cA F [a, b]), fun X hX => ps_par hX.calm hX.nd (by rw [hX.N]; exact hi) (by rw [hX.N]; exact hj) hij (by rw [hX.sc]; exact hx) (by rw [hX.sc]; exact hy) (cA_pa hX.toSat) (hw _ hX.sc) (hs _),
    h G H σ _ sl hk fun ds W' vs G' H' ⟨d, d', e1, hp⟩ s r => by
      subst e1
      obtain ⟨v, v', rfl, r1, r2⟩ := r.two
      exact ⟨v, v', rfl, k.nx _ W' G' H' _ hp s (((sl.mono s.le).put i r1).put j r2)⟩⟩

/-! ### targets -/
/-- what a target is given: data, or a pair that is just made -/
def Yp (K : PySem.W.Frag) (G H : Hp) (v : V) (d : D) : Prop := Rp K G v d ∨ ∃ t vs ds, v = .ref t ∧ H t = some (.tup vs) ∧ d = .pr ds ∧ Rps K G vs ds
def cG (S : Cx → Prop) (tg : Expr) : TG := fun v σ H Q => ∃ g : TG, (∀ X, S X → PG X tg g) ∧ g v σ H Q
def cGs (S : Cx → Prop) (tg : List Expr) : TGs := fun v σ H Q => ∃ g : TGs, (∀ X, S X → PGs X tg g) ∧ g v σ H Q
theorem cG_pg {S : Cx → Prop} {X : Cx} {tg : Expr} (h : S X) : PG X tg (cG S tg) := ⟨fun pins s σ H v u Q I r ⟨_, ht, q⟩ => (ht X h).run pins s σ H v u Q I r q⟩
theorem cGs_pgs {S : Cx → Prop} {X : Cx} {tg : List Expr} (h : S X) : PGs X tg (cGs S tg) := ⟨fun pins s σ H v u Q I r ⟨_, ht, q⟩ => (ht X h).run pins s σ H v u Q I r q⟩
/-- the slots but those at ts are as they were -/
def But (ts : List Nat) (σ σ' : L2.St) : Prop := σ'.length = σ.length ∧ ∀ i, i ∉ ts → σ'[i]? = σ[i]?
theorem But.refl (ts : List Nat) (σ : L2.St) : But ts σ σ := ⟨rfl, fun _ _ => rfl⟩
theorem But.trans {ts us : List Nat} {σ σ1 σ2 : L2.St} (a : But ts σ σ1) (b : But us σ1 σ2) : But (ts ++ us) σ σ2 := ⟨b.1.trans a.1, fun i hi => by
  rw [List.mem_append, not_or] at hi
  rw [b.2 i hi.2, a.2 i hi.1]⟩
theorem But.set (i : Nat) (x : Option V) (σ : L2.St) : But [i] σ (σ.set i x) := ⟨List.length_set .., fun j hj => List.getElem?_set_ne fun e => hj (by rw [e]; exact List.mem_singleton.mpr rfl)⟩
def EG (F : CF) (S : Cx → Prop) (tg : Expr) (Γ : Ga) (d : D) (Γ' : Ga) (ts : List Nat) : Prop := ∀ (G H : Hp) (v : V) (σ : L2.St) (Q : L2.St → Hp → Prop), Slots F.K G Γ σ → Le G H → Yp F.K G H v d → (∀ σ', Slots F.K G Γ' σ' → But ts σ σ' → Q σ' H) → cG S tg v σ H Q
def EGs (F : CF) (S : Cx → Prop) (tg : List Expr) (Γ : Ga) (ds : List D) (Γ' : Ga) (ts : List Nat) : Prop := ∀ (G H : Hp) (vs : List V) (σ : L2.St) (Q : L2.St → Hp → Prop), Slots F.K G Γ σ → Le G H → Rps F.K G vs ds → (∀ σ', Slots F.K G Γ' σ' → But ts σ σ' → Q σ' H) → cGs S tg vs σ H Q
/-- contexts in which targets are stored -/
structure SatG (F : CF) (X : Cx) : Prop extends Sat F X where
  nd : X.N.Nodup
theorem SatS.toG {X : Cx} (h : SatS F X) : SatG F X := ⟨h.toSat, h.nd⟩
theorem eg_name {S : Cx → Prop} (hS : ∀ X, S X → SatG F X) (i : Nat) {x : Str} (hi : F.N[i]? = some x) (hx : F.sc.names.lookup x = some .local ∨ (F.sc.names.lookup x = some .cell ∧ ∀ X, S X → X.fn x = true)) (hd : ∀ ds, d = .pr ds → False := by intro _ h; cases h) : EG F S (.Name x pos) Γ d (Γ.set i (some d)) [i] :=
  fun G H v σ Q sl le y k => ⟨gName i, fun X hX => pg_name (hS X hX).nd (by rw [(hS X hX).N]; exact hi) (by
      unfold L2.Loc
      rw [(hS X hX).sc]
      rcases hx with h | h
      · exact .inl h
      · exact .inr h.1) (by
      rw [(hS X hX).sc]
      rcases hx with h | h
      · exact .inr h
      · exact .inl (h.2 X hX)), by
    rcases y with r | ⟨t, vs, ds, _, _, e, _⟩
    · exact k _ (sl.put i r) (.set i _ σ)
    · exact (hd ds e).elim⟩
/-- a name that no fresh pair comes to -/
theorem eg_nameT {S : Cx → Prop} (hS : ∀ X, S X → SatG F X) (i : Nat) {x : Str} (hi : F.N[i]? = some x) (hx : F.sc.names.lookup x = some .local ∨ (F.sc.names.lookup x = some .cell ∧ ∀ X, S X → X.fn x = true)) (G H : Hp) (v : V) (σ : L2.St) (Q : L2.St → Hp → Prop) (sl : Slots F.K G Γ σ) (r : Rp F.K G v d) (k : ∀ σ', Slots F.K G (Γ.set i (some d)) σ' → But [i] σ σ' → Q σ' H) : cG S (.Name x pos) v σ H Q :=
  ⟨gName i, fun X hX => pg_name (hS X hX).nd (by rw [(hS X hX).N]; exact hi) (by
      unfold L2.Loc
      rw [(hS X hX).sc]
      rcases hx with h | h
      · exact .inl h
      · exact .inr h.1) (by
      rw [(hS X hX).sc]
      rcases hx with h | h
      · exact .inr h
      · exact .inl (h.2 X hX)), k _ (sl.put i r) (.set i _ σ)⟩
theorem egs_nil {S : Cx → Prop} : EGs F S [] Γ [] Γ [] := fun G H vs σ Q sl le r k => ⟨gNil, fun X _ => pgs_nil, r.inv0, k σ sl (.refl _ _)⟩
theorem egs_cons {S : Cx → Prop} {ds : List D} {es : List Expr} {Γ1 Γ2 : Ga} {ts us : List Nat} (h : EG F S e Γ d Γ1 ts) (t : EGs F S es Γ1 ds Γ2 us) (hs : ∀ env, (assignEach (e :: es) env).map (·.2) = assign e env :: (assignEach es env).map (·.2) := by intro _; rfl) : EGs F S (e :: es) Γ (d :: ds) Γ2 (ts ++ us) :=
  fun G H vs σ Q sl le r k => by
    obtain ⟨v, vs', rfl, r1, r2⟩ := r.inv
    exact ⟨gCons (cG S e) (cGs S es), fun X hX => pgs_cons (cG_pg hX) (cGs_pgs hX) (hs _), v, vs', rfl, h G H v σ _ sl le (.inl r1) fun σ1 sl1 b1 => t G H vs' σ1 Q sl1 le r2 fun σ2 sl2 b2 => k σ2 sl2 (b1.trans b2)⟩
/-- (a, b, ..) -/
theorem eg_tup {S : Cx → Prop} (hS : ∀ X, S X → SatG F X) {ds : List D} {es : List Expr} {n : Nat} {Γ1 : Ga} {ts : List Nat} (h : EGs F S es Γ ds Γ1 ts) (hl : es.length = ds.length) (hn : ∀ env, (assignEach es env).length = es.length := by intro _; rfl) (hst : ∀ env, (assignEach es env).findIdx? (·.1) = none := by intro _; rfl) : EG F S (.Tuple es n pos) Γ (.tup ds) Γ1 ts :=
  fun G H v σ Q sl le y k => ⟨gTup F.K es.length (cGs S es), fun X hX => (hS X hX).K ▸ pg_tup (hS X hX).calm (cGs_pgs hX) (hn _) (hst _), by
    rcases y with r | ⟨t, vs, ds', rfl, e1, e2, r⟩
    · obtain ⟨a, vs, rfl, e1, r1⟩ := r.tup_inv
      exact ⟨a, vs, rfl, Le.st le e1.sq, by rw [r1.1, hl], h G H vs σ Q sl le r1 k⟩
    · cases e2⟩
/-- .. of a pair just made -/
theorem eg_pr {S : Cx → Prop} (hS : ∀ X, S X → SatG F X) {ds : List D} {es : List Expr} {n : Nat} {Γ1 : Ga} {ts : List Nat} (h : EGs F S es Γ ds Γ1 ts) (hl : es.length = ds.length) (hn : ∀ env, (assignEach es env).length = es.length := by intro _; rfl) (hst : ∀ env, (assignEach es env).findIdx? (·.1) = none := by intro _; rfl) : EG F S (.Tuple es n pos) Γ (.pr ds) Γ1 ts :=
  fun G H v σ Q sl le y k => ⟨gTup F.K es.length (cGs S es), fun X hX => (hS X hX).K ▸ pg_tup (hS X hX).calm (cGs_pgs hX) (hn _) (hst _), by
    rcases y with r | ⟨t, vs, ds', rfl, e1, e2, r⟩
    · cases r
    · cases e2
      exact ⟨t, vs, rfl, SqT.of e1, by rw [r.1, hl], h G H vs σ Q sl le r k⟩⟩
/-- target = e -/
theorem s1_asg {tg : Expr} (h : EVR F e Γ W (fun d W' => ∃ Γ' ts, EG F (SatS F) tg Γ d Γ' ts ∧ A.nx Γ' W')) (hs : ∀ env, swapsWithSole [tg] e pos.line env = pure false := by intro _; rfl) (hw : ∀ env, swappedStores [tg] e env = pure none := by intro _; rfl)
    (h1 : ∀ env, (assignEach [tg] env).map (·.2) = [assign tg env] := by intro _; rfl) : S1 F (.Assign [tg] e pos) Γ W A :=
  fun G H σ De sl hk k => ⟨tAsg (cE F e) (cG (SatS F) tg), fun X hX => ps_asg (cE_pe hX.toSat) (cG_pg hX) (hs _) (hw _) (h1 _),
    h G H σ _ sl hk fun d W' v G' H' ⟨Γ', ts, hg, hp⟩ s r => hg G' H' v σ _ (sl.mono s.le) s.hk.sub (.inl r) fun σ' sl' _ => k.nx Γ' W' G' H' σ' hp s sl'⟩

/-! ### what a for walks -/
def cI (F : CF) (tg iter : Expr) : TI := fun σ H R => ∃ wi : TI, (∀ X, Sat F X → PI X tg iter wi) ∧ wi σ H R
theorem cI_pi {X : Cx} {tg iter : Expr} (h : Sat F X) : PI X tg iter (cI F tg iter) := ⟨fun pins s σ H R I ⟨_, ht, q⟩ => (ht X h).run pins s σ H R I q⟩
/-- J hands out ds, one after another, while the frozen stands (and what is owned is as Wk says) -/
def Wlk (F : CF) (J : It) (G : Hp) (Wk : OW → Prop) (ds : List D) : Prop := ∀ (G' : Hp) (W' : OW) (H' : Hp), Le G G' → Hk F.K F.T G' W' H' → Wk W' → ∀ i,
  (∀ d, ds[i]? = some d → J.go i H' ∧ ∀ x H'', J.yld i H' x H'' → Step F.K F.T G' W' H' G' W' H'' ∧ Yp F.K G' H'' x d) ∧ (ds.length ≤ i → J.stop i H')
def EI (F : CF) (tg iter : Expr) (Γ : Ga) (W : OW) (ds : List D) (Wk : OW → Prop) (W1 : OW) : Prop := ∀ (G H : Hp) (σ : L2.St) (R : It → Hp → Prop), Slots F.K G Γ σ → Hk F.K F.T G W H → (∀ J G' H', Step F.K F.T G W H G' W1 H' → Wlk F J G' Wk ds → R J H') → cI F tg iter σ H R
theorem yp_of {K : PySem.W.Frag} {G H : Hp} {v : V} (r : Rp K G v d) : Yp K G H v d := .inl r
theorem ei_list {tg : Expr} {ds : List D} (h : EV F e Γ W (.ok d) W1) (hd : AsL W1 d ds) : EI F tg e Γ W ds (fun W' => AsL W' d ds) W1 :=
  fun G H σ R sl hk k => ⟨iList F.K (cE F e), fun X hX => hX.K ▸ pi_list (cE_pe hX), h G H σ _ sl hk fun v G1 H1 s1 r1 => by
    obtain ⟨a, vs, rfl, e1, q1⟩ := hd.at s1.hk r1
    refine ⟨a, rfl, ⟨vs, SqL.of e1⟩, k _ G1 H1 s1 fun G' W' H' le hk' wk i => ?_⟩
    obtain ⟨a', vs', ea, e2, q2⟩ := wk.at hk' (r1.mono le)
    cases ea
    refine ⟨fun d hd => ?_, fun hi => ⟨vs', SqL.of e2, by rw [q2.1]; exact hi⟩⟩
    obtain ⟨v, ev, rv⟩ := q2.get hd
    refine ⟨⟨vs', v, SqL.of e2, ev⟩, fun x H'' y => ?_⟩
    obtain ⟨rfl, y⟩ := y
    have := y vs' (SqL.of e2)
    rw [ev] at this
    cases this
    exact ⟨.refl hk', yp_of rv⟩⟩
theorem ei_tup {tg : Expr} {ds : List D} (h : EV F e Γ W (.ok (.tup ds)) W1) : EI F tg e Γ W ds (fun _ => True) W1 :=
  fun G H σ R sl hk k => ⟨iTup F.K (cE F e), fun X hX => hX.K ▸ pi_tup (cE_pe hX), h G H σ _ sl hk fun v G1 H1 s1 r1 => by
    obtain ⟨a, vs, rfl, e1, q1⟩ := r1.tup_inv
    refine ⟨a, rfl, ⟨vs, sqt_up s1.hk e1⟩, k _ G1 H1 s1 fun G' W' H' le hk' _ i => ?_⟩
    have e2 : SqT F.K H' a vs := Le.st (le.trans hk'.sub) e1.sq
    refine ⟨fun d hd => ?_, fun hi => ⟨vs, e2, by rw [q1.1]; exact hi⟩⟩
    obtain ⟨v, ev, rv⟩ := q1.get hd
    refine ⟨⟨vs, v, e2, ev⟩, fun x H'' y => ?_⟩
    obtain ⟨rfl, y⟩ := y
    have := y vs e2
    rw [ev] at this
    cases this
    exact ⟨.refl hk', yp_of (rv.mono le)⟩⟩
theorem ei_str {tg : Expr} {z : Str} (h : EV F e Γ W (.ok (.str z)) W1) : EI F tg e Γ W (z.cps.toList.map fun c => .str ⟨#[c]⟩) (fun _ => True) W1 :=
  fun G H σ R sl hk k => ⟨iStr (cE F e), fun X hX => pi_str (cE_pe hX), h G H σ _ sl hk fun v G1 H1 s1 r1 => ⟨z, r1.str_inv, k _ G1 H1 s1 fun G' W' H' le hk' _ i => by
    refine ⟨fun d hd => ?_, fun hi => ?_⟩
    · rw [List.getElem?_map, Array.getElem?_toList] at hd
      cases hc : z.cps[i]? with
      | none =>
        rw [hc] at hd
        cases hd
      | some c =>
        rw [hc] at hd
        cases hd
        have hlt := (Array.getElem?_eq_some_iff.mp hc).1
        refine ⟨hlt, fun x H'' y => ?_⟩
        obtain ⟨rfl, c', hc', rfl⟩ := y
        rw [hc] at hc'
        cases hc'
        exact ⟨.refl hk', yp_of (.str _)⟩
    · rw [List.length_map, Array.length_toList] at hi
      exact hi⟩⟩
def rngD (lo : Int) (n : Nat) : List D := (List.range n).map fun (i : Nat) => .int (lo + (i : Int))
theorem rngD_len (lo : Int) (n : Nat) : (rngD lo n).length = n := by
  unfold rngD
  rw [List.length_map, List.length_range]
theorem rngD_get {lo : Int} {n i : Nat} (h : (rngD lo n)[i]? = some d) : i < n ∧ d = .int (lo + i) := by
  unfold rngD at h
  rw [List.getElem?_map] at h
  by_cases hi : i < n
  · rw [List.getElem?_range hi] at h
    cases h
    exact ⟨hi, rfl⟩
  · rw [List.getElem?_eq_none (by rw [List.length_range]; omega)] at h
    cases h
theorem wlk_rng {G : Hp} {lo : Int} {n : Nat} : Wlk F (Itr lo n) G (fun _ => True) (rngD lo n) := fun G' W' H' le hk' _ i => by
  refine ⟨fun d hd => ?_, fun hi => ?_⟩
  · obtain ⟨hi, rfl⟩ := rngD_get hd
    refine ⟨hi, fun x H'' y => ?_⟩
    obtain ⟨rfl, rfl⟩ := y
    exact ⟨.refl hk', yp_of (.int _)⟩
  · rw [rngD_len] at hi
    exact hi
theorem ei_range1 {tg : Expr} {j : Int} (hg : GlS F "range") (hm : F.mg "range" = none) (h : EV F a Γ W (.ok (.int j)) W1) (hj : -(2 ^ 62) ≤ j ∧ j < 2 ^ 62) (hs : ∀ env, starEach [a] env = [(false, eval a env)] := by intro _; rfl) : EI F tg (.Call (.Name "range" p) [a] [] pos) Γ W (rngD 0 j.toNat) (fun _ => True) W1 :=
  fun G H σ R sl hk k => ⟨iRng1 (cA F [a]), fun X hX => pi_range1 (hX.gl hg) (by rw [hX.mg]; exact hm) (cA_pa hX) (hs _), (ea_cons h ea_nil (fun env => by rw [hs]; rfl)) G H σ _ sl hk fun vs G1 H1 s1 r1 => by
    obtain ⟨v, rfl, r⟩ := r1.one
    exact ⟨j, by rw [r.int_inv], hj.1, hj.2, k _ G1 H1 s1 wlk_rng⟩⟩
theorem ei_range2 {tg : Expr} {i j : Int} (hg : GlS F "range") (hm : F.mg "range" = none) (h : EA F [a, b] Γ W (.ok [.int i, .int j]) W1) (hj : -(2 ^ 62) ≤ i ∧ i < 2 ^ 62 ∧ -(2 ^ 62) ≤ j ∧ j < 2 ^ 62) (hs : ∀ env, starEach [a, b] env = [(false, eval a env), (false, eval b env)] := by intro _; rfl) (hs2 : ∀ env, starEach [b] env = [(false, eval b env)] := by intro _; rfl) :
    EI F tg (.Call (.Name "range" p) [a, b] [] pos) Γ W (rngD i (j - i).toNat) (fun _ => True) W1 :=
  fun G H σ R sl hk k => ⟨iRng2 (cA F [a, b]), fun X hX => pi_range2 (hX.gl hg) (by rw [hX.mg]; exact hm) (cA_pa hX) (hs _) (hs2 _), h G H σ _ sl hk fun vs G1 H1 s1 r1 => by
    obtain ⟨v, w, rfl, r, r'⟩ := r1.two
    exact ⟨i, j, by rw [r.int_inv, r'.int_inv], hj, k _ G1 H1 s1 wlk_rng⟩⟩

/-! ### for, while -/
theorem s1_for {tg iter : Expr} {body : List Stmt} {ds : List D} {Wk : OW → Prop} (hi : EI F tg iter Γ W ds Wk W1) (I : Nat → Ga → OW → Prop) (h0 : I 0 Γ W1) (hk' : ∀ i Γ' W', I i Γ' W' → Wk W')
    (hs : ∀ i d Γ' W', ds[i]? = some d → I i Γ' W' → ∃ Γ'' ts, EG F (SatS F) tg Γ' d Γ'' ts ∧ SS F body Γ'' W' { A with nx := I (i + 1), ct := I (i + 1), bk := A.nx })
    (hd : ∀ Γ' W', I ds.length Γ' W' → A.nx Γ' W') (hf : ∀ env x, foldedSetIterable iter env x = pure x := by intro _ _; rfl) : S1 F (.For tg iter body [] pos) Γ W A :=
  fun G H σ De sl hk k => ⟨tFor (cI F tg iter) (cG (SatS F) tg) (cSs F body), fun X hX => ps_for hX.own hX.calm (cI_pi hX.toSat) (cG_pg hX) (cSs_pss hX) (hf _), hi G H σ _ sl hk fun J G1 H1 s1 wl => by
    refine ⟨fun i m σ' H' => m = ds.length - i ∧ i ≤ ds.length ∧ ∃ Γ' W' G', Step F.K F.T G1 W1 H1 G' W' H' ∧ Slots F.K G' Γ' σ' ∧ I i Γ' W', ⟨ds.length, by simp, Nat.zero_le _, Γ, W1, G1, .refl s1.hk, sl.mono s1.le, h0⟩, ?_⟩
    rintro i m σ' H' ⟨rfl, hil, Γ', W', G', st, sl', inv⟩
    obtain ⟨w1, w2⟩ := wl G' W' H' st.le st.hk (hk' i Γ' W' inv) i
    by_cases hlt : i < ds.length
    · obtain ⟨go, w3⟩ := w1 ds[i] (List.getElem?_eq_getElem hlt)
      refine .inr ⟨go, fun σ2 H2 => ∃ Γ2 W2 G2, Step F.K F.T G1 W1 H1 G2 W2 H2 ∧ Slots F.K G2 Γ2 σ2 ∧ I (i + 1) Γ2 W2, fun σ2 H2 q => ⟨ds.length - (i + 1), by omega, rfl, hlt, q⟩, fun x H'' y => ?_⟩
      obtain ⟨s2, y2⟩ := w3 x H'' y
      obtain ⟨Γ'', ts, hg, hb⟩ := hs i ds[i] Γ' W' (List.getElem?_eq_getElem hlt) inv
      refine hg G' H'' x σ' _ sl' s2.hk.sub y2 fun σ3 sl3 _ => ?_
      refine hb G' H'' σ3 _ sl3 s2.hk ⟨fun Γ4 W4 G4 H4 σ4 h4 t4 sl4 => ⟨Γ4, W4, G4, (st.trans s2).trans t4, sl4, h4⟩, fun d W4 v G4 H4 h4 t4 r4 => k.rt d W4 v G4 H4 h4 (s1.trans ((st.trans s2).trans t4)) r4, fun Γ4 W4 G4 H4 σ4 h4 t4 sl4 => k.nx Γ4 W4 G4 H4 σ4 h4 (s1.trans ((st.trans s2).trans t4)) sl4,
        fun Γ4 W4 G4 H4 σ4 h4 t4 sl4 => ⟨Γ4, W4, G4, (st.trans s2).trans t4, sl4, h4⟩, fun c W4 G4 H4 h4 t4 => k.er c W4 G4 H4 h4 (s1.trans ((st.trans s2).trans t4))⟩
    · have e : i = ds.length := by omega
      subst e
      exact .inl ⟨w2 (Nat.le_refl _), k.nx Γ' W' G' H' σ' (hd Γ' W' inv) (s1.trans st) sl'⟩⟩
theorem s1_while {body : List Stmt} (I : Nat → Ga → OW → Prop) (m0 : Nat) (h0 : I m0 Γ W)
    (hs : ∀ m Γ' W', I m Γ' W' → ∃ r W2, ET F c Γ' W' (.ok r) W2 ∧ (r = true → SS F body Γ' W2 { A with nx := fun Γ2 W3 => ∃ m', m' < m ∧ I m' Γ2 W3, ct := fun Γ2 W3 => ∃ m', m' < m ∧ I m' Γ2 W3, bk := A.nx }) ∧ (r = false → A.nx Γ' W2)) : S1 F (.While c body [] pos) Γ W A :=
  fun G H σ De sl hk k => ⟨tWhile (cT F c) (cSs F body), fun X hX => ps_while hX.own (cT_pt hX.toSat) (cSs_pss hX), by
    refine ⟨fun m σ' H' => ∃ Γ' W' G', Step F.K F.T G W H G' W' H' ∧ Slots F.K G' Γ' σ' ∧ I m Γ' W', ⟨m0, Γ, W, G, .refl hk, sl, h0⟩, ?_⟩
    rintro m σ' H' ⟨Γ', W', G', st, sl', inv⟩
    obtain ⟨r, W2, ht, h1, h2⟩ := hs m Γ' W' inv
    refine ht G' H' σ' _ sl' st.hk fun G2 H2 s2 => ?_
    cases r with
    | true =>
      rw [if_pos rfl]
      refine ⟨fun σ3 H3 => ∃ m', m' < m ∧ ∃ Γ3 W3 G3, Step F.K F.T G W H G3 W3 H3 ∧ Slots F.K G3 Γ3 σ3 ∧ I m' Γ3 W3, fun σ3 H3 ⟨m', hm, q⟩ => ⟨m', hm, q⟩, ?_⟩
      refine h1 rfl G2 H2 σ' _ (sl'.mono s2.le) s2.hk ⟨fun Γ4 W4 G4 H4 σ4 ⟨m', hm, h4⟩ t4 sl4 => ⟨m', hm, Γ4, W4, G4, (st.trans s2).trans t4, sl4, h4⟩, fun d W4 v G4 H4 h4 t4 r4 => k.rt d W4 v G4 H4 h4 ((st.trans s2).trans t4) r4, fun Γ4 W4 G4 H4 σ4 h4 t4 sl4 => k.nx Γ4 W4 G4 H4 σ4 h4 ((st.trans s2).trans t4) sl4,
        fun Γ4 W4 G4 H4 σ4 ⟨m', hm, h4⟩ t4 sl4 => ⟨m', hm, Γ4, W4, G4, (st.trans s2).trans t4, sl4, h4⟩, fun c W4 G4 H4 h4 t4 => k.er c W4 G4 H4 h4 ((st.trans s2).trans t4)⟩
    | false =>
      rw [if_neg Bool.false_ne_true]
      exact k.nx Γ' W2 G2 H2 σ' (h2 rfl) (st.trans s2) (sl'.mono s2.le)⟩
end
end Sh
set_option Elab.async false
set_option linter.all false
set_option maxRecDepth 100000
set_option maxHeartbeats 1000000
set_option autoImplicit false
/-! ShF: what a def promises (its arguments as data, what is owned, what comes back), calls. -/
namespace Sh
open PySem PySem.Spec PyProof.Rows L2

/-- a def's law: arguments, owned, what comes back, owned behind -/
abbrev Law := List D → OW → Out → OW → Prop
def spOf (K : PySem.W.Frag) (T : Tb) (S : Law) : Sp := fun vs H Q E => ∃ G W ds o W', Hk K T G W H ∧ Rps K G vs ds ∧ S ds W o W' ∧ (match o with
  | .ok d => ∀ v G' H', Step K T G W H G' W' H' → Rp K G' v d → Q v H'
  | .er c => ∀ G' H', Step K T G W H G' W' H' → E (.ref c) none H')
/-- some that is owned is forgotten -/
def Dn (W W' : OW) : Prop := ∃ L, W.Perm (W' ++ L)
theorem Dn.refl (W : OW) : Dn W W := ⟨[], by rw [List.append_nil]⟩
theorem Dn.nil (W : OW) : Dn W [] := ⟨W, .refl _⟩
theorem Dn.cons {W W' : OW} (h : Dn W W') (p : Addr × AO) : Dn (p :: W) W' := by
  obtain ⟨L, q⟩ := h
  exact ⟨p :: L, (q.cons p).trans List.perm_middle.symm⟩
theorem Dn.step {K : PySem.W.Frag} {T : Tb} {G H G' H' : Hp} {W W1 W' : OW} (h : Dn W1 W') (s : Step K T G W H G' W1 H') : Step K T G W H G' W' H' := by
  obtain ⟨L, q⟩ := h
  exact (s.perm (List.Perm.refl _) q).drop (List.sublist_append_left W' L)
def AEof (o : Out) (W' : OW) : AE where
  nx := fun _ W2 => o = .ok .non ∧ Dn W2 W'
  rt := fun d W2 => o = .ok d ∧ Dn W2 W'
  er := fun c W2 => o = .er c ∧ Dn W2 W'
/-- the names' data at the entry -/
def startG (N : List Str) (ds : List D) : Ga := ds.map some ++ List.replicate (N.length - ds.length) none
theorem slots_start {K : PySem.W.Frag} {G : Hp} {N : List Str} {vs : List V} {ds : List D} (r : Rps K G vs ds) : Slots K G (startG N ds) (L2.start N vs) := by
  unfold startG L2.start
  refine ⟨by simp [r.1], fun i d h => ?_⟩
  by_cases hi : i < ds.length
  · rw [List.getElem?_append_left (by simpa using hi), List.getElem?_map] at h
    cases e : ds[i]? with
    | none =>
      rw [e] at h
      cases h
    | some x =>
      rw [e] at h
      cases h
      obtain ⟨v, e1, r1⟩ := r.get e
      refine ⟨v, ?_, r1⟩
      rw [List.getElem?_append_left (by rw [List.length_map, r.1]; exact hi), List.getElem?_map, e1]
      rfl
  · rw [List.getElem?_append_right (by simpa using hi), List.getElem?_replicate] at h
    split at h <;> cases h
section
variable {P : Program} {w : World} {K : PySem.W.Frag} {mg : Str → Option Value} {base : Heap} {T : Tb}
/-- THE RULE: a def by its body -/
theorem fn_def {x qual : Str} {st : Stmt} {f : Addr} {fd : FuncData} {N ps : List Str} {k : Nat} {S : Law} (Fu : Fun K x qual st f fd) (Sc : FnScope N ps (defScope st)) (hl : ∀ ds W o W', S ds W o W' → ds.length = ps.length)
    (body : ∀ (cl : List (Str × Addr)) (E : XK) (ds : List D) (W : OW) (o : Out) (W' : OW), S ds W o W' → SS ⟨P, w, K, mg, base, N, defScope st, k, fd.code, E, T, qual ++ ".<locals>.", some cl⟩ (defBody st) (startG N ds) W (AEof o W')) :
    FnOk P w K mg base (L2.CX P w) (k + 1) f fd ps (spOf K T S) := by
  obtain ⟨oc, od, kV, doc, pm, an, cdv, ct, osl, rfl, lk, hcd⟩ := Fu.ex
  refine fn_of lk hcd Sc (fun vs H Q E ⟨G, W, ds, o, W', hk, rs, hS, _⟩ => by rw [rs.1]; exact hl _ _ _ _ hS) fun A outer s H vs Q E hr ⟨G, W, ds, o, W', hk, rs, hS, hq⟩ => ?_
  obtain ⟨t, ht, q⟩ := body _ E ds W o W' hS G H (L2.start N vs) { nx := fun _ H' => Q .non H', rt := Q } (slots_start rs) hk
    ⟨fun Γ' W2 G' H' σ' ⟨e, dn⟩ st _ => by
        subst e
        exact hq .non G' H' (dn.step st) .non,
      fun d W2 v G' H' ⟨e, dn⟩ st r => by
        subst e
        exact hq v G' H' (dn.step st) r,
      fun Γ' W2 G' H' σ' h => h.elim, fun Γ' W2 G' H' σ' h => h.elim,
      fun c W2 G' H' ⟨e, dn⟩ st => by
        subst e
        exact hq G' H' (dn.step st)⟩
  refine ⟨t, ht _ ⟨⟨rfl, rfl, rfl, rfl, rfl, rfl, rfl, rfl, hr, rfl, ?_, rfl, fun l e => Option.some.inj e⟩, Sc.nd, fun _ => rfl, ?_, ?_, rfl, rfl⟩, q⟩
  · exact passes_call (X := cxOf (L2.CX P w) P w K mg base N qual (defScope st) f cdv A outer s H E) (takes_of rfl rfl rfl rfl) fun cls d σ H h => h
  · exact passes_of (X := cxOf (L2.CX P w) P w K mg base N qual (defScope st) f cdv A outer s H E) rfl
  · exact takes_of rfl rfl rfl rfl
/-- the def that the module's name x holds keeps the law S -/
structure Fd (P : Program) (w : World) (K : PySem.W.Frag) (mg : Str → Option Value) (base : Heap) (T : Tb) (x : Str) (k : Nat) (n : Nat) (S : Law) : Prop where
  ex : ∃ (f : Addr) (fd : FuncData) (ps : List Str), mg x = some (.ref f) ∧ PySem.W.keepIn K (.ref f) = true ∧ Binds K fd ps [] ∧ ps.length = n ∧ FnOk P w K mg base (L2.CX P w) k f fd ps (spOf K T S)
theorem Fd.imp {x : Str} {k j n : Nat} {S S' : Law} (h : Fd P w K mg base T x k n S) (hk : k ≤ j) (hS : ∀ ds W o W', S' ds W o W' → S ds W o W') : Fd P w K mg base T x j n S' := by
  obtain ⟨f, fd, ps, h1, h2, h3, h4, h5⟩ := h.ex
  exact ⟨f, fd, ps, h1, h2, h3, h4, (h5.mono hk).imp fun vs H Q E ⟨G, W, ds, o, W', hk, rs, hs, hq⟩ => ⟨G, W, ds, o, W', hk, rs, hS _ _ _ _ hs, hq⟩⟩
end
/-- .. in a piece of code -/
abbrev CF.Fd (F : CF) (x : Str) (k n : Nat) (S : Law) : Prop := Sh.Fd F.P F.w F.K F.mg F.base F.T x k n S

section
variable {F : CF} {Γ : Ga} {W W1 W2 W3 : OW} {pos p : Pos} {a b c e : Expr} {d d1 d2 d3 : D} {o : Out} {A : AE}
theorem FnOk.cast {P P' : Program} {w w' : World} {K K' : PySem.W.Frag} {mg mg' : Str → Option Value} {base base' : Heap} {k : Nat} {f : Addr} {fd : FuncData} {ps : List Str} {sp : Sp} (h : FnOk P w K mg base (L2.CX P w) k f fd ps sp)
    (e1 : P' = P) (e2 : w' = w) (e3 : K' = K) (e4 : mg' = mg) (e5 : base' = base) : FnOk P' w' K' mg' base' (L2.CX P' w') k f fd ps sp := by
  subst e1 e2 e3 e4 e5
  exact h
/-- f(..): what is owned beside Wf stays -/
theorem ev_call {x : Str} {k : Nat} {es : List Expr} {ds : List D} {S : Law} {Wf Wf' Wr : OW} (h : F.Fd x k (e :: es).length S) (hkk : k ≤ F.k) (hg : GlS F x) (ha : EA F (e :: es) Γ W (.ok ds) W1) (hw : W1.Perm (Wf ++ Wr)) (hS : S ds Wf o Wf') (hw' : (Wf' ++ Wr).Perm W2)
    (hdb : (x == ("__debug__" : Str)) = false := by decide) (he : ∀ env, starEach (e :: es) env = (false, eval e env) :: starEach es env := by intro _; rfl) (hpl : ∀ env, (backTo pos (starEach es env)).any (·.1) = false := by intro _; rfl) : EV F (.Call (.Name x p) (e :: es) [] pos) Γ W o W2 := by
  obtain ⟨f, fd, ps, h1, h2, h3, h4, h5⟩ := h.ex
  refine fun G H σ Q sl hk kt => ⟨tCall (spOf F.K F.T S) [] F.E (cA F (e :: es)), fun X hX => pe_call (FnOk.cast h5 hX.P hX.w hX.K hX.mg hX.base) (hX.room.mono hkk) (hX.gl hg) (by rw [hX.mg]; exact h1) (by rw [hX.K]; exact h2) (by rw [hX.K]; exact h3) .nil hX.pass (cA_pa hX) hdb (he _) (hpl _),
    ha G H σ _ sl hk fun vs G1 H1 s1 r1 => ?_⟩
  rw [List.append_nil]
  have hk2 := s1.hk.perm hw
  have back : ∀ {G' H'}, Step F.K F.T G1 Wf H1 G' Wf' H' → Step F.K F.T G W H G' W2 H' := fun st => s1.trans ((st.more hk2).perm hw.symm hw')
  refine ⟨G1, Wf, ds, o, Wf', hk2.less (List.sublist_append_left _ _), r1, hS, ?_⟩
  cases o with
  | ok d => exact fun v G' H' st r => kt v G' H' (back st) r
  | er c => exact fun G' H' st => kt G' H' (back st)
theorem ev_call0 {x : Str} {k : Nat} {S : Law} {Wf Wf' Wr : OW} (h : F.Fd x k 0 S) (hkk : k ≤ F.k) (hg : GlS F x) (hw : W.Perm (Wf ++ Wr)) (hS : S [] Wf o Wf') (hw' : (Wf' ++ Wr).Perm W2) (hdb : (x == ("__debug__" : Str)) = false := by decide) : EV F (.Call (.Name x p) [] [] pos) Γ W o W2 := by
  obtain ⟨f, fd, ps, h1, h2, h3, h4, h5⟩ := h.ex
  refine fun G H σ Q sl hk kt => ⟨tCall (spOf F.K F.T S) [] F.E tNil, fun X hX => pe_call0 (FnOk.cast h5 hX.P hX.w hX.K hX.mg hX.base) (hX.room.mono hkk) (hX.gl hg) (by rw [hX.mg]; exact h1) (by rw [hX.K]; exact h2) (by rw [hX.K]; exact h3) .nil hX.pass hdb, ?_⟩
  have hk2 := hk.perm hw
  have back : ∀ {G' H'}, Step F.K F.T G Wf H G' Wf' H' → Step F.K F.T G W H G' W2 H' := fun st => (st.more hk2).perm hw.symm hw'
  refine ⟨G, Wf, [], o, Wf', hk2.less (List.sublist_append_left _ _), .nil, hS, ?_⟩
  cases o with
  | ok d => exact fun v G' H' st r => kt v G' H' (back st) r
  | er c => exact fun G' H' st => kt G' H' (back st)
/-- a call that looks at nothing that is owned -/
theorem ev_pure {x : Str} {k : Nat} {es : List Expr} {ds : List D} {S : Law} (h : F.Fd x k (e :: es).length S) (hkk : k ≤ F.k) (hg : GlS F x) (ha : EA F (e :: es) Γ W (.ok ds) W1) (hS : S ds [] o [])
    (hdb : (x == ("__debug__" : Str)) = false := by decide) (he : ∀ env, starEach (e :: es) env = (false, eval e env) :: starEach es env := by intro _; rfl) (hpl : ∀ env, (backTo pos (starEach es env)).any (·.1) = false := by intro _; rfl) : EV F (.Call (.Name x p) (e :: es) [] pos) Γ W o W1 :=
  ev_call (Wf := []) (Wf' := []) (Wr := W1) h hkk hg ha (.refl _) hS (.refl _) hdb he hpl
theorem ev_pure0 {x : Str} {k : Nat} {S : Law} (h : F.Fd x k 0 S) (hkk : k ≤ F.k) (hg : GlS F x) (hS : S [] [] o []) (hdb : (x == ("__debug__" : Str)) = false := by decide) : EV F (.Call (.Name x p) [] [] pos) Γ W o W :=
  ev_call0 (Wf := []) (Wf' := []) (Wr := W) h hkk hg (.refl _) hS (.refl _) hdb
theorem perm_at {W : OW} {i : Nat} {q : Addr × AO} (h : W[i]? = some q) (q' : Addr × AO) : (q' :: W.eraseIdx i).Perm (W.set i q') := by
  induction W generalizing i with
  | nil => simp at h
  | cons w W ih =>
    cases i with
    | zero => exact .refl _
    | succ i =>
      rw [List.getElem?_cons_succ] at h
      rw [List.eraseIdx_cons_succ, List.set_cons_succ]
      exact (List.Perm.swap _ _ _).trans ((ih h).cons _)
/-- a call that looks at one thing that is owned, the i-th -/
theorem ev_at {x : Str} {k i : Nat} {q : Addr} {m m' : AO} {es : List Expr} {ds : List D} {S : Law} (h : F.Fd x k (e :: es).length S) (hkk : k ≤ F.k) (hg : GlS F x) (ha : EA F (e :: es) Γ W (.ok ds) W1) (hi : W1[i]? = some (q, m)) (hS : S ds [(q, m)] o [(q, m')])
    (hdb : (x == ("__debug__" : Str)) = false := by decide) (he : ∀ env, starEach (e :: es) env = (false, eval e env) :: starEach es env := by intro _; rfl) (hpl : ∀ env, (backTo pos (starEach es env)).any (·.1) = false := by intro _; rfl) : EV F (.Call (.Name x p) (e :: es) [] pos) Γ W o (W1.set i (q, m')) := by
  refine ev_call (Wf := [(q, m)]) (Wf' := [(q, m')]) (Wr := W1.eraseIdx i) h hkk hg ha ?_ hS (perm_at hi _) hdb he hpl
  have := perm_at hi (q, m)
  have e2 : W1.set i (q, m) = W1 := by
    refine List.ext_getElem? fun j => ?_
    by_cases hj : i = j
    · subst hj
      rw [List.getElem?_set_self (List.getElem?_eq_some_iff.mp hi).1, hi]
    · rw [List.getElem?_set_ne hj]
  rw [e2] at this
  exact this.symm

/-! ### raise -/
/-- what is known of an own exception class at C -/
structure XC (K : PySem.W.Frag) (mg : Str → Option Value) (x : Str) (C : Addr) : Prop where
  g : mg x = some (.ref C)
  x : PySem.W.excIn K C [.type "ValueError", .type "Exception", .type "BaseException", .type "object"] "ValueError.__new__" = true
  k : PySem.W.keepIn K (.ref C) = true
  b : PySem.W.subIn K (.ref C) (.type "BaseException") = some true
  t : PySem.W.typeIn K (.ref C) = some (.type "type")
theorem s1_raise {x m : Str} {j : Nat} {p2 p3 : Pos} {C : Addr} (h : XC F.K F.mg x C) (hg : GlS F x) (he : A.er C W) (hdb : (x == ("__debug__" : Str)) = false := by decide) : S1 F (.Raise (some (.Call (.Name x p) [.Constant (.str m) j p2] [] p3)) none pos) Γ W A :=
  fun G H σ De sl hk k => ⟨fun _ σ H => F.E (.ref C) none H, fun X hX => by
      refine ps_raise (W := fun cls d _ H => F.E cls d H) hX.calm hX.tk (pmk_own PySem.F.excBase_ValueError (by rw [hX.K]; exact h.x) (by rw [hX.mg]; exact h.g) (by rw [hX.K]; exact h.k) (raises_own (by rw [hX.K]; exact h.b) (by rw [hX.K]; exact h.t)) (hX.gl hg) hdb),
    k.er C W G H he (.refl hk)⟩
end
end Sh
set_option Elab.async false
set_option linter.all false
set_option maxRecDepth 100000
set_option maxHeartbeats 1000000
set_option autoImplicit false
/-! ShM: list comprehensions; what changes what is owned. -/
namespace Sh
open PySem PySem.Spec PyProof.Rows L2

def wipeG (Γ : Ga) : List Nat → Ga
  | [] => Γ
  | v :: vs => (wipeG Γ vs).set v none
theorem wipe_get {σ : L2.St} {i : Nat} : ∀ {vs : List Nat}, (i ∉ vs → (wipe σ vs)[i]? = σ[i]?) ∧ (i ∈ vs → i < σ.length → (wipe σ vs)[i]? = some none)
  | [] => ⟨fun _ => rfl, fun h => absurd h (by simp)⟩
  | v :: vs => by
    have ih := @wipe_get σ i vs
    refine ⟨fun h => ?_, fun h hl => ?_⟩
    · rw [List.mem_cons, not_or] at h
      show ((wipe σ vs).set v none)[i]? = _
      rw [List.getElem?_set_ne (Ne.symm h.1)]
      exact ih.1 h.2
    · show ((wipe σ vs).set v none)[i]? = _
      by_cases e : v = i
      · subst e
        rw [List.getElem?_set_self (by rw [wipe_length]; exact hl)]
      · rw [List.getElem?_set_ne e]
        exact ih.2 ((List.mem_cons.mp h).resolve_left (Ne.symm e)) hl
theorem wipe_but {σ σ' : L2.St} {ts vs : List Nat} (h : But ts (wipe σ vs) σ') (hs : ∀ t ∈ ts, t ∈ vs) : wipe σ' vs = wipe σ vs := by
  have hl : σ'.length = σ.length := by rw [h.1, wipe_length]
  refine List.ext_getElem? fun i => ?_
  by_cases hi : i ∈ vs
  · by_cases hlt : i < σ.length
    · rw [(wipe_get).2 hi (by rw [hl]; exact hlt), (wipe_get).2 hi hlt]
    · rw [List.getElem?_eq_none (by rw [wipe_length, hl]; omega), List.getElem?_eq_none (by rw [wipe_length]; omega)]
  · rw [(wipe_get).1 hi, h.2 i fun z => hi (hs i z)]
theorem wipeG_some {Γ : Ga} {i : Nat} {d : D} : ∀ {vs : List Nat}, (wipeG Γ vs)[i]? = some (some d) → Γ[i]? = some (some d) ∧ i ∉ vs
  | [], h => ⟨h, by simp⟩
  | v :: vs, h => by
    have h : ((wipeG Γ vs).set v none)[i]? = some (some d) := h
    by_cases e : v = i
    · subst e
      by_cases hv : v < (wipeG Γ vs).length
      · rw [List.getElem?_set_self hv] at h
        cases h
      · rw [List.getElem?_eq_none (by rw [List.length_set]; omega)] at h
        cases h
    · rw [List.getElem?_set_ne e] at h
      obtain ⟨h1, h2⟩ := wipeG_some h
      exact ⟨h1, by rw [List.mem_cons, not_or]; exact ⟨Ne.symm e, h2⟩⟩
theorem wipeG_length (Γ : Ga) : ∀ vs : List Nat, (wipeG Γ vs).length = Γ.length
  | [] => rfl
  | v :: vs => by
    show ((wipeG Γ vs).set v none).length = _
    rw [List.length_set, wipeG_length Γ vs]
theorem Slots.wipe {K : PySem.W.Frag} {G : Hp} {Γ : Ga} {σ : L2.St} (h : Slots K G Γ σ) (vs : List Nat) : Slots K G (wipeG Γ vs) (L2.wipe σ vs) := by
  refine ⟨by rw [wipeG_length, wipe_length, h.1], fun i d e => ?_⟩
  obtain ⟨e1, hi⟩ := wipeG_some e
  obtain ⟨v, e2, r⟩ := h.2 i d e1
  exact ⟨v, by rw [(wipe_get).1 hi]; exact e2, r⟩

/-- within a comprehension's block -/
abbrev CF.blk (F : CF) (scope : Scope) : CF := { F with sc := relS scope F.sc, E := E0, cl := none }
theorem Sat.blk {F : CF} {X : Cx} (h : Sat F X) (scope : Scope) (s : Shared) (H : Hp) (C : Addr) (cl : List (Str × Addr)) (fp : List Addr) : Sat (F.blk scope) (X.blk s H scope (compEnvC scope cl C X.env) fp) :=
  ⟨h.P, h.w, h.K, h.mg, h.base, h.N, by
    show relS scope X.env.scope = relS scope F.sc
    rw [h.sc], h.cd, h.room, h.calm, passL, h.qual, fun _ e => nomatch e⟩
/-- a clause's tests -/
def cTs (F : CF) (ifs : List Expr) : TT := fun σ H Q => ∃ t : TT, (∀ X, Sat F X → PTs X ifs t) ∧ t σ H Q
theorem cTs_pts {F : CF} {X : Cx} {ifs : List Expr} (h : Sat F X) : PTs X ifs (cTs F ifs) := ⟨fun pins s σ H Q I ⟨_, ht, q⟩ => (ht X h).run pins s σ H Q I q⟩
def ETs (F : CF) (ifs : List Expr) (Γ : Ga) (W : OW) (r : Bool) (W' : OW) : Prop := ∀ (G H : Hp) (σ : L2.St) (Q : Bool → Hp → Prop), Slots F.K G Γ σ → Hk F.K F.T G W H → KontT F G W H (.ok r) W' Q → cTs F ifs σ H Q
section
variable {F : CF} {Γ : Ga} {W W1 W2 W3 : OW} {pos p : Pos} {a b c e : Expr} {d d1 d2 d3 : D} {o : Out} {A : AE}
theorem ets_nil : ETs F [] Γ W true W := fun G H σ Q sl hk k => ⟨tYes, fun X _ => pts_nil, k G H (.refl hk)⟩
theorem ets_one {r : Bool} (h : ET F c Γ W (.ok r) W1) : ETs F [c] Γ W r W1 := fun G H σ Q sl hk k => ⟨cT F c, fun X hX => pts_one (cT_pt hX), h G H σ Q sl hk k⟩

/-- one turn of a comprehension: from what is owned W and the items acc to W' and acc' -/
def Turn1 (F : CF) (tg : Expr) (ifs : List Expr) (elt : Expr) (vs : List Nat) (Γ0 : Ga) (d : D) (W : OW) (acc : List D) (W' : OW) (acc' : List D) : Prop :=
  ∃ Γ1 ts, EG F (SatG F) tg Γ0 d Γ1 ts ∧ (∀ t ∈ ts, t ∈ vs) ∧ ∃ r W1, ETs F ifs Γ1 W r W1 ∧ (r = true → ∃ y, EV F elt Γ1 W1 (.ok y) W' ∧ acc' = acc ++ [y]) ∧ (r = false → W1 = W' ∧ acc' = acc)
theorem lc_read {tg iter elt : Expr} {ifs : List Expr} {scope : Scope} {vs : List Nat} {ds : List D} {Wk : OW → Prop} (hi : EI F tg iter Γ W ds Wk W1) (acc : Nat → List D) (Ws : Nat → OW) (h0 : acc 0 = []) (hW0 : Ws 0 = W1) (hwk : ∀ i, i ≤ ds.length → Wk (Ws i))
    (hs : ∀ i d, ds[i]? = some d → Turn1 (F.blk scope) tg ifs elt vs (wipeG Γ vs) d (Ws i) (acc i) (Ws (i + 1)) (acc (i + 1))) (hz : ds.length < sizeLine) {G H : Hp} {σ : L2.St} {Q : VK} (sl : Slots F.K G Γ σ) (hk : Hk F.K F.T G W H)
    (k : ∀ p G' H', H p = none → Step F.K F.T G W H G' ((p, .lst (acc ds.length)) :: Ws ds.length) H' → Q (.ref p) H') : tLc (cI F tg iter) (cG (SatG (F.blk scope)) tg) (cTs (F.blk scope) ifs) (cE (F.blk scope) elt) vs σ H Q := by
  have hacc : ∀ i, i ≤ ds.length → (acc i).length ≤ i := by
    intro i
    induction i with
    | zero => intro _; rw [h0]; exact Nat.le_refl _
    | succ i ih =>
      intro hi'
      obtain ⟨Γ1, ts, _, _, r, Wx, _, h1, h2⟩ := hs i ds[i] (List.getElem?_eq_getElem hi')
      have := ih (by omega)
      cases r with
      | true =>
        obtain ⟨y, _, e⟩ := h1 rfl
        rw [e, List.length_append, List.length_singleton]
        omega
      | false =>
        rw [(h2 rfl).2]
        omega
  refine hi G H σ _ sl hk fun J G1 H1 s1 wl D hD => ?_
  have s2 := s1.hk.allocO (w := .lst []) (o := .lst []) hD Rps.nil
  have hD0 := s1.back hD
  refine ⟨fun i m H' => m = ds.length - i ∧ i ≤ ds.length ∧ ∃ G', Step F.K F.T G W H G' (Ws i ++ [(D, .lst (acc i))]) H' ∧ Le G1 G', ⟨ds.length, by simp, Nat.zero_le _, G1, ?_, Le.refl _⟩, ?_⟩
  · rw [h0, hW0]
    refine (s1.trans s2).perm (List.Perm.refl _) ?_
    exact (List.perm_append_comm (l₁ := [(D, AO.lst [])]) (l₂ := W1))
  · rintro i m H' ⟨rfl, hil, G', st, le⟩
    have hkW : Hk F.K F.T G' (Ws i) H' := st.hk.less (List.sublist_append_left _ _)
    obtain ⟨w1, w2⟩ := wl G' (Ws i) H' le hkW (hwk i hil) i
    by_cases hlt : i < ds.length
    · obtain ⟨go, w3⟩ := w1 ds[i] (List.getElem?_eq_getElem hlt)
      refine .inr ⟨go, fun H2 => ∃ G2, Step F.K F.T G W H G2 (Ws (i + 1) ++ [(D, .lst (acc (i + 1)))]) H2 ∧ Le G1 G2, fun H2 q => ⟨ds.length - (i + 1), by omega, rfl, hlt, q⟩, fun x H2 y => ?_⟩
      obtain ⟨s3, y3⟩ := w3 x H2 y
      obtain ⟨Γ1, ts, hg, hts, r, Wx, ht, h1, h2⟩ := hs i ds[i] (List.getElem?_eq_getElem hlt)
      have st3 := st.trans (s3.more st.hk)
      refine hg G' H2 x (L2.wipe σ vs) _ ((sl.mono st.le).wipe vs) s3.hk.sub y3 fun σ2 sl2 bt => ⟨wipe_but bt hts, ?_⟩
      refine ht G' H2 σ2 _ sl2 s3.hk fun G3 H3 s4 => ?_
      have st4 := st3.trans (s4.more st3.hk)
      cases r with
      | true =>
        rw [if_pos rfl]
        obtain ⟨y, he, ea⟩ := h1 rfl
        refine he G3 H3 σ2 _ (sl2.mono s4.le) s4.hk fun v G4 H4 s5 rv => ?_
        have st5 := st4.trans (s5.more st4.hk)
        have hix : (Ws (i + 1) ++ [(D, AO.lst (acc i))])[(Ws (i + 1)).length]? = some (D, .lst (acc i)) := by
          rw [List.getElem?_append_right (Nat.le_refl _), Nat.sub_self]
          rfl
        obtain ⟨_, ob, eo, ro⟩ := st5.hk.own _ (List.mem_of_getElem? hix)
        obtain ⟨ws, rfl, ro⟩ := ro.lst_inv
        have hlen := hacc i hil
        refine ⟨ws, eo, by rw [ro.1]; omega, G4, ?_, (le.trans s4.le).trans s5.le⟩
        have s6 := st5.hk.write (w' := .lst (acc (i + 1))) (o' := .lst (ws ++ [v])) hix (by rw [ea]; exact ro.snoc rv) (fun c q e => by
          have eo' : H4 D = some (.lst ws) := eo
          rw [eo'] at e
          cases e)
        have e6 : (Ws (i + 1) ++ [(D, AO.lst (acc i))]).set (Ws (i + 1)).length (D, .lst (acc (i + 1))) = Ws (i + 1) ++ [(D, .lst (acc (i + 1)))] := by
          rw [List.set_append_right _ _ (Nat.le_refl _), Nat.sub_self]
          rfl
        rw [e6] at s6
        exact st5.trans s6
      | false =>
        rw [if_neg Bool.false_ne_true]
        obtain ⟨e1, e2⟩ := h2 rfl
        subst e1
        rw [e2]
        exact ⟨G3, st4, le.trans s4.le⟩
    · have e : i = ds.length := by omega
      subst e
      exact .inl ⟨w2 (Nat.le_refl _), k D G' H' hD0 (st.perm (List.Perm.refl _) List.perm_append_comm)⟩
theorem en_lc {tg iter elt : Expr} {ifs : List Expr} {scope : Scope} {own : List (Str × Nat)} {ds : List D} {Wk : OW → Prop} (hN : F.N.Nodup) (ok : blkC F.N F.sc scope own = true) (hi : EI F tg iter Γ W ds Wk W1) (acc : Nat → List D) (Ws : Nat → OW) (h0 : acc 0 = []) (hW0 : Ws 0 = W1) (hwk : ∀ i, i ≤ ds.length → Wk (Ws i))
    (hs : ∀ i d, ds[i]? = some d → Turn1 (F.blk scope) tg ifs elt (own.map (·.2)) (wipeG Γ (own.map (·.2))) d (Ws i) (acc i) (Ws (i + 1)) (acc (i + 1))) (hz : ds.length < sizeLine) (hf : ∀ env x, foldedSetIterable iter env x = pure x := by intro _ _; rfl) :
    EN F (.ListComp elt [⟨tg, iter, ifs, 0⟩] scope pos) Γ W (acc ds.length) (Ws ds.length) :=
  fun G H σ Q sl hk k => ⟨tLc (cI F tg iter) (cG (SatG (F.blk scope)) tg) (cTs (F.blk scope) ifs) (cE (F.blk scope) elt) (own.map (·.2)), fun X hX => pe_lc hX.calm (by rw [hX.N]; exact hN) (cI_pi hX) (blkOk_by (by rw [hX.N, hX.sc]; exact ok))
      (fun s H C cl fp => cG_pg ⟨hX.blk scope s H C cl fp, by show X.N.Nodup; rw [hX.N]; exact hN⟩) (fun s H C cl fp => cTs_pts (hX.blk scope s H C cl fp)) (fun s H C cl fp => cE_pe (hX.blk scope s H C cl fp)) (hf _),
    lc_read hi acc Ws h0 hW0 hwk hs hz sl hk k⟩
/-- name = [..] on one line, the name a local -/
theorem s1_setLc (j : Nat) {y : Str} {py spos : Pos} {tg iter elt : Expr} {ifs : List Expr} {scope : Scope} {own : List (Str × Nat)} {ds : List D} {Wk : OW → Prop} (hN : F.N.Nodup) (hj : F.N[j]? = some y) (hy : F.sc.names.lookup y = some .local) (hkd : F.sc.kind = .function) (hl : (py.line == pos.line) = true)
    (hnm : (scope.names.any fun (n, k) => n == y && (k == .local || k == .cell)) = false) (ok : blkC F.N F.sc scope own = true) (hi : EI F tg iter Γ W ds Wk W1) (acc : Nat → List D) (Ws : Nat → OW) (h0 : acc 0 = []) (hW0 : Ws 0 = W1) (hwk : ∀ i, i ≤ ds.length → Wk (Ws i))
    (hs : ∀ i d, ds[i]? = some d → Turn1 (F.blk scope) tg ifs elt (own.map (·.2)) (wipeG Γ (own.map (·.2))) d (Ws i) (acc i) (Ws (i + 1)) (acc (i + 1))) (hz : ds.length < sizeLine)
    (hA : ∀ q, A.nx (Γ.set j (some (.ptr q))) ((q, .lst (acc ds.length)) :: Ws ds.length)) (hf : ∀ env x, foldedSetIterable iter env x = pure x := by intro _ _; rfl) :
    S1 F (.Assign [.Name y py] (.ListComp elt [⟨tg, iter, ifs, 0⟩] scope pos) spos) Γ W A :=
  fun G H σ De sl hk k => ⟨tAsg (tLc (cI F tg iter) (cG (SatG (F.blk scope)) tg) (cTs (F.blk scope) ifs) (cE (F.blk scope) elt) (List.map (fun z : Str × Nat => z.2) own)) (gName j), fun X hX => ps_setLc hX.calm hX.nd (by rw [hX.N]; exact hj) (by rw [hX.sc]; exact hy) (sw_true (by rw [hX.sc]; exact hkd) (by rw [hX.sc]; exact hy) hl hnm) (cI_pi hX.toSat) (blkOk_by (by rw [hX.N, hX.sc]; exact ok))
      (fun s H C cl fp => cG_pg ⟨hX.toSat.blk scope s H C cl fp, by show X.N.Nodup; rw [hX.N]; exact hN⟩) (fun s H C cl fp => cTs_pts (hX.toSat.blk scope s H C cl fp)) (fun s H C cl fp => cE_pe (hX.toSat.blk scope s H C cl fp)) (hf _),
    lc_read (Q := fun x H1 => gName j x σ H1 De.nx) hi acc Ws h0 hW0 hwk hs hz sl hk fun q G' H' _ s => k.nx _ _ G' H' _ (hA q) s ((sl.mono s.le).put j (.ptr q))⟩

/-! ### what is owned changes -/
/-- xs.append(y) -/
theorem evr_append {i : Nat} {q : Addr} {ds : List D} {apos : Pos} {P : D → OW → Prop} (ho : EV F a Γ W (.ok (.ptr q)) W1) (he : EV F e Γ W1 (.ok d) W2) (h1 : W1[i]? = some (q, .lst ds)) (h2 : W2[i]? = some (q, .lst ds)) (hz : ds.length < sizeLine) (hp : P .non (W2.set i (q, .lst (ds ++ [d]))))
    (hbase : ∀ env, attributeBase a "append" env (eval a env) = eval a env := by intro _; rfl)
    (hfew : ∀ env, ((backTo pos (starEach [e] env)).all (fun x => !x.1) && (backToKw pos (keywordEach [] env)).all (fun x => x.1.isSome) && decide ([e].length + ([] : List Keyword).length + (if ([] : List Keyword).isEmpty then 0 else 1) < 30)) = true := by intro _; rfl)
    (hline : (apos.endLine == pos.line) = true := by rfl) (hs : ∀ env, starEach [e] env = (false, eval e env) :: starEach [] env := by intro _; rfl) : EVR F (.Call (.Attribute a "append" apos) [e] [] pos) Γ W P :=
  fun G H σ Q sl hk k => ⟨tBM F.K "list" rAppend (cE F a) (cA F [e]), fun X hX => hX.K ▸ pe_bm PySem.F.plainAttrs_list PySem.F.slot_list_append PySem.F.type_list_append mt_append (cE_pe hX) (cA_pa hX) (hbase _) (hfew _) hline (hs _) rfl,
    ho G H σ _ sl hk fun x G1 H1 s1 r1 => ⟨ty_list (F := F) (.own i h1) G1 H1 x s1.hk r1, (ea_cons he ea_nil hs) G1 H1 σ _ (sl.mono s1.le) s1.hk fun vs G2 H2 s2 rs => by
      obtain ⟨v, rfl, rv⟩ := rs.one
      obtain rfl := r1.ptr_inv
      obtain ⟨_, ob, eo, ro⟩ := s2.hk.own _ (List.mem_of_getElem? h2)
      obtain ⟨ws, rfl, ro⟩ := ro.lst_inv
      have eo' : H2 q = some (.lst ws) := eo
      exact ⟨q, ws, v, rfl, rfl, eo, by rw [ro.1]; exact hz, k _ _ _ _ _ hp ((s1.trans s2).trans (s2.hk.write h2 (ro.snoc rv) fun c z e' => by
        rw [eo'] at e'
        cases e')) .non⟩⟩⟩
/-- xs.pop() -/
theorem ev_pop {i : Nat} {q : Addr} {ds : List D} {apos : Pos} (ho : EV F a Γ W (.ok (.ptr q)) W1) (h1 : W1[i]? = some (q, .lst (ds ++ [d]))) (hbase : ∀ env, attributeBase a "pop" env (eval a env) = eval a env := by intro _; rfl) (hline : (apos.endLine == pos.line) = true := by rfl) :
    EV F (.Call (.Attribute a "pop" apos) [] [] pos) Γ W (.ok d) (W1.set i (q, .lst ds)) :=
  fun G H σ Q sl hk k => ⟨tBM0 F.K "list" rPop (cE F a), fun X hX => hX.K ▸ pe_bm0 PySem.F.plainAttrs_list PySem.F.slot_list_pop PySem.F.type_list_pop mt_pop (cE_pe hX) (hbase _) hline,
    ho G H σ _ sl hk fun x G1 H1 s1 r1 => ⟨ty_list (F := F) (.own i h1) G1 H1 x s1.hk r1, by
      obtain rfl := r1.ptr_inv
      obtain ⟨_, ob, eo, ro⟩ := s1.hk.own _ (List.mem_of_getElem? h1)
      obtain ⟨ws, rfl, ro⟩ := ro.lst_inv
      have eo' : H1 q = some (.lst ws) := eo
      have hl : ws.length = ds.length + 1 := by rw [ro.1, List.length_append, List.length_singleton]
      obtain ⟨v, ev, rv⟩ := ro.get (i := ds.length) (d := d) (by rw [List.getElem?_append_right (Nat.le_refl _), Nat.sub_self]; rfl)
      refine ⟨q, ws, v, rfl, rfl, eo, by rw [hl, Nat.add_sub_cancel]; exact ev, k v _ _ (s1.trans (s1.hk.write h1 (o' := .lst ws.dropLast) (w' := .lst ds) ?_ fun c z e' => ?_)) rv⟩
      · have := ro.take ds.length
        rw [List.take_left'  rfl] at this
        rw [List.dropLast_eq_take, hl, Nat.add_sub_cancel]
        exact this
      · rw [eo'] at e'
        cases e'⟩⟩
/-- xs.pop(0) -/
theorem ev_pop0 {i : Nat} {q : Addr} {ds : List D} {apos : Pos} (ho : EV F a Γ W (.ok (.ptr q)) W1) (he : EV F e Γ W1 (.ok (.int 0)) W2) (h1 : W1[i]? = some (q, .lst (d :: ds))) (h2 : W2[i]? = some (q, .lst (d :: ds)))
    (hbase : ∀ env, attributeBase a "pop" env (eval a env) = eval a env := by intro _; rfl)
    (hfew : ∀ env, ((backTo pos (starEach [e] env)).all (fun x => !x.1) && (backToKw pos (keywordEach [] env)).all (fun x => x.1.isSome) && decide ([e].length + ([] : List Keyword).length + (if ([] : List Keyword).isEmpty then 0 else 1) < 30)) = true := by intro _; rfl)
    (hline : (apos.endLine == pos.line) = true := by rfl) (hs : ∀ env, starEach [e] env = (false, eval e env) :: starEach [] env := by intro _; rfl) : EV F (.Call (.Attribute a "pop" apos) [e] [] pos) Γ W (.ok d) (W2.set i (q, .lst ds)) :=
  fun G H σ Q sl hk k => ⟨tBM F.K "list" rPopAt (cE F a) (cA F [e]), fun X hX => hX.K ▸ pe_bm PySem.F.plainAttrs_list PySem.F.slot_list_pop PySem.F.type_list_pop mt_popAt (cE_pe hX) (cA_pa hX) (hbase _) (hfew _) hline (hs _) rfl,
    ho G H σ _ sl hk fun x G1 H1 s1 r1 => ⟨ty_list (F := F) (.own i h1) G1 H1 x s1.hk r1, (ea_cons he ea_nil hs) G1 H1 σ _ (sl.mono s1.le) s1.hk fun vs G2 H2 s2 rs => by
      obtain ⟨v0, rfl, r0⟩ := rs.one
      obtain rfl := r1.ptr_inv
      obtain ⟨_, ob, eo, ro⟩ := s2.hk.own _ (List.mem_of_getElem? h2)
      obtain ⟨ws, rfl, ro⟩ := ro.lst_inv
      obtain ⟨v, ws, rfl, rv, rt⟩ := ro.inv
      have eo' : H2 q = some (.lst (v :: ws)) := eo
      refine ⟨q, v :: ws, 0, 0, v, rfl, by rw [r0.int_inv], eo, by decide, by decide, ?_, rfl, k v _ _ ((s1.trans s2).trans (s2.hk.write h2 (o' := .lst ws) (w' := .lst ds) rt fun c z e' => ?_)) rv⟩
      · simp [seqIndex?]
      · rw [eo'] at e'
        cases e'⟩⟩
/-- xs[k] = e -/
theorem s1_store {i j : Nat} {q : Addr} {ds : List D} {k : Int} {so sk : Expr} {p2 : Pos} (he : EV F e Γ W (.ok d) W1) (ho : EV F so Γ W1 (.ok (.ptr q)) W2) (hk' : EV F sk Γ W2 (.ok (.int k)) W3) (hi : W3[i]? = some (q, .lst ds)) (hj : ixN ds.length k = some j) (hA : A.nx Γ (W3.set i (q, .lst (ds.set j d))))
    (ha : ∀ env v, assign (.Subscript so sk p2) env v = (do
      let ov ← holding [v] (eval so env)
      let iv ← holding [v, ov] (eval sk env)
      standAt p2
      holding [v, ov, iv] (setItem ov iv v)
      release [v, ov, iv] []) := by intro _ _; rfl)
    (hs : ∀ env, swapsWithSole [.Subscript so sk p2] e pos.line env = pure false := by intro _; rfl) (hw : ∀ env, swappedStores [.Subscript so sk p2] e env = pure none := by intro _; rfl)
    (h1 : ∀ env, (assignEach [.Subscript so sk p2] env).map (·.2) = [assign (.Subscript so sk p2) env] := by intro _; rfl) : S1 F (.Assign [.Subscript so sk p2] e pos) Γ W A :=
  fun G H σ De sl hk kk => ⟨tAsg (cE F e) (gSub (cE F so) (cE F sk) rSetL), fun X hX => ps_asg (cE_pe hX.toSat) (pg_sub (cE_pe hX.toSat) (cE_pe hX.toSat) set_list (ha _)) (hs _) (hw _) (h1 _),
    he G H σ _ sl hk fun v G1 H1 s1 r1 => ho G1 H1 σ _ (sl.mono s1.le) s1.hk fun x G2 H2 s2 r2 => hk' G2 H2 σ _ (sl.mono (s1.le.trans s2.le)) s2.hk fun y G3 H3 s3 r3 => by
      obtain rfl := r2.ptr_inv
      obtain ⟨_, ob, eo, ro⟩ := s3.hk.own _ (List.mem_of_getElem? hi)
      obtain ⟨ws, rfl, ro⟩ := ro.lst_inv
      have eo' : H3 q = some (.lst ws) := eo
      have st := (s1.trans s2).trans s3
      have st2 := st.trans (s3.hk.write hi (o' := .lst (ws.set j v)) (w' := .lst (ds.set j d)) (ro.set j (r1.mono (s2.le.trans s3.le))) fun c z e' => by
        rw [eo'] at e'
        cases e')
      exact ⟨q, ws, k, j, rfl, r3.int_inv, eo, by rw [ro.1]; exact hj, kk.nx _ _ _ _ _ hA st2 (sl.mono st.le)⟩⟩
end
end Sh
set_option Elab.async false
set_option linter.all false
set_option maxRecDepth 100000
set_option maxHeartbeats 1000000
set_option autoImplicit false
/-! ShG: generator expressions: their making, their turns. -/
namespace Sh
open PySem PySem.Spec PyProof.Rows L2 GenW

theorem Hk.grow {K : PySem.W.Frag} {T : Tb} {G H : Hp} {W : OW} (h : Hk K T G W H) {P : Addr} {ps ps' : Array Value} (e : H P = some (.tbl ps)) (t : TriplesOk ps'.toList) (hl : P ∉ T.l.map (·.1)) : Step K T G W H G W (upd H P (.tbl ps')) := by
  have nG : ∀ a o, H a = some o → (∀ qs, o ≠ .tbl qs) → a ≠ P := fun a o q n z => by
    subst z
    rw [e] at q
    exact n ps (Option.some.inj q).symm
  refine ⟨.refl G, fun _ _ q => .inl q, fun _ q => .inl q, fun a o q _ n => by rw [upd_ne (nG a o q n)]; exact q, fun a o q => ?_, fun a o q => ?_, h.ntb, h.nod, fun p hp => ?_, fun P' hP' => ?_, fun p hp => ?_, fun p hp qs hq => ?_⟩
  · by_cases ha : a = P
    · subst ha
      exact ⟨_, upd_same⟩
    · exact ⟨o, by rw [upd_ne ha]; exact q⟩
  · rw [upd_ne (nG a o (h.sub a o q) fun qs z => h.ntb a qs (by rw [q, z]))]
    exact h.sub a o q
  · obtain ⟨h1, o, h2, h3⟩ := h.own p hp
    exact ⟨h1, o, by rw [upd_ne (nG _ o h2 h3.ntb)]; exact h2, h3⟩
  · by_cases ha : P' = P
    · subst ha
      exact ⟨ps', upd_same, t⟩
    · obtain ⟨qs, h1, h2⟩ := h.tab.1 P' hP'
      exact ⟨qs, by rw [upd_ne ha]; exact h1, h2⟩
  · obtain ⟨qs, h1, h2, h3⟩ := h.tab.2.1 p hp
    have ne : p.1 ≠ P := fun z => hl (z ▸ List.mem_map_of_mem hp)
    refine ⟨qs, by rw [upd_ne ne]; exact h1, h2, fun pos cv hc => ?_⟩
    obtain ⟨c, e1, e2⟩ := h3 pos cv hc
    exact ⟨c, e1, by rw [upd_ne (nG c _ e2 fun qs => LamX.codeO_ne qs)]; exact e2⟩
  · have ne : p.1 ≠ P := fun z => hl (z ▸ List.mem_map_of_mem hp)
    rw [upd_ne ne] at hq
    exact h.tab.2.2 p hp qs hq

/-- the context of a generator expression that was made in the state s, heap H, its frame ge, its iterator's objects fp -/
abbrev gnCx (X : Cx) (s : Shared) (H : Hp) (ge : Env) (fp : List Addr) (pn : List (Addr × Obj)) (A : Around) : Cx :=
  { X with s_0 := s, H_0 := H, env := ge, outer := X.stack, stack := ge :: X.stack, ex := fp, A := A, fn := fun _ => false, pn := pn, xe := fun _ _ => False }
/-- within a generator expression -/
abbrev CF.gen (F : CF) (scope : Scope) (cd : Value) : CF := { F with sc := scope, cd := cd, k := F.k - 3, E := E0, q := F.q ++ "<genexpr>.", cl := none }
/-- a generator expression's own scope -/
structure GScp (scope : Scope) : Prop where
  co : scope.isCoroutine = false
  cell : ∀ y ∈ scope.names, y.2 ≠ .cell
  dot : scope.names.lookup (".0" : Str) = some NameKind.local
section
variable {X : Cx} {pins : List (Addr × Obj)} {σ : L2.St} {H : Hp} {s : Shared}
theorem gn_start {scope : Scope} {own : List (Str × Nat)} {fp : List Addr} {A : Around} {code : Value} {h' : Heap} {m : Str → Option Value} {ob : Obj} {gs : Array GenState} {tk : Nat} (I : Inv X pins σ H s) (ok : BlkOk X.N X.env.scope scope own) (gk : GScp scope) (hN : X.N.Nodup) (hfp : ∀ b ∈ fp, FpOk X pins H b ∧ b < s.heap.objs.size)
    (hA : A.frames = some (genEnv scope (cloFrom X.env.cells scope.names []) s.heap.objs.size code builtinsNs X.env :: X.stack)) (hh : X.calm = true → A.handled = none)
    (hn : h'.Ns s.heap.objs.size m) (hs : Heap.SameBut s.heap.objs.size (s.heap.push { cls := .type "frame", data := .dict #[] }) h') (hd : ∀ v, ob.data ≠ .cell v) (hob : ob.isFreed = false) (hg : AllBare gs) :
    Inv (gnCx X s H (genEnv scope (cloFrom X.env.cells scope.names []) s.heap.objs.size code builtinsNs X.env) fp [(h'.objs.size, ob)] A) [] (wipe σ (own.map (·.2))) H { s with gens := gs, toks := tk, heap := h'.push ob } := by
  have hfree : ∀ y ∈ scope.names, y.2 = .free → ∃ c, X.env.cells.lookup y.1 = some c := fun y hy e => by
    rcases ok.free y hy e with k | k
    · exact I.ok.has _ (.inl k)
    · exact I.ok.has _ (.inr k)
  generalize hge : genEnv scope (cloFrom X.env.cells scope.names []) s.heap.objs.size code builtinsNs X.env = ge at hA ⊢
  have hL : ge.locals = s.heap.objs.size := by rw [← hge]; rfl
  have hcl : ge.cells = cloFrom X.env.cells scope.names [] := by rw [← hge]; rfl
  have hsc : ge.scope = scope := by rw [← hge]; rfl
  have hsz : h'.objs.size = s.heap.objs.size + 1 := by rw [hs.1, Heap.size_push]
  have kp : ∀ b o, s.heap.get? b = some o → (h'.push ob).get? b = some o := fun b o e => Heap.get?_push_of_some _ (hs.extBut b o (Nat.ne_of_lt (Heap.lt_size e)) (Heap.get?_push_of_some _ e))
  have cm : ∀ {y c}, ge.cells.lookup y = some c → X.env.cells.lookup y = some c ∧ c < s.heap.objs.size ∧ (y, NameKind.free) ∈ scope.names := fun {y c} e => by
    rw [hcl] at e
    rcases cloFrom_mem (PySem.mem_of_lookup e) with hm | ⟨h1, rfl⟩
    · cases hm
    · obtain ⟨c, hc⟩ := hfree _ h1 rfl
      rw [hc]
      obtain ⟨w, z⟩ := I.cell _ _ hc
      exact ⟨rfl, z.lt, h1⟩
  have look : ∀ {y}, scope.names.lookup y = some .free → ∃ c, ge.cells.lookup y = some c ∧ X.env.cells.lookup y = some c := fun {y} hl => by
    have hy : (y, NameKind.free) ∈ scope.names := PySem.mem_of_lookup hl
    obtain ⟨c', e'⟩ := mem_lookup (cloFrom_has (cells := X.env.cells) (acc := []) hy)
    rw [← hcl] at e'
    exact ⟨c', e', (cm e').1⟩
  have okB : (gnCx X s H ge fp [(h'.objs.size, ob)] A).Ok := by
    refine ⟨I.ok.mod, by show ge.scope.kind = _; rw [hsc]; exact ok.kind, by show ge.globals = _; rw [← hge]; exact I.ok.glob, by show ge.builtins = _; rw [← hge]; rfl, by show s.heap.objs.size ≤ ge.locals; rw [hL]; exact Nat.le_refl _,
      fun y z c e1 e2 => I.ok.inj y z c (cm e1).1 (cm e2).1, fun y hy => ?_, fun y c z e => (by cases z), hh, hA, .inr ⟨rfl, by show ge.frame = some ge.locals; rw [← hge]; rfl⟩, fun b hb => ⟨?_, fun y c e z => ?_⟩, I.bs, Nat.le_trans I.ok.bsz I.sz, fun b o e hb => ?_, fun b hb z => ?_, I.stack, I.stkFree⟩
    · show ∃ c, ge.cells.lookup y = some c
      have hy : ge.scope.names.lookup y = some .cell ∨ ge.scope.names.lookup y = some .free := hy
      rw [hsc] at hy
      rcases hy with hy | hy
      · exact absurd rfl (gk.cell _ (PySem.mem_of_lookup hy))
      · obtain ⟨c, h1, _⟩ := look hy
        exact ⟨c, h1⟩
    · show b ≠ ge.locals
      rw [hL]; exact Nat.ne_of_lt (hfp b hb).2
    · exact (hfp b hb).1.2.2.2.2.1 y c (cm e).1 z
    · rcases (hfp b hb).1.2.2.2.1 with z | z
      · exact I.ok.noex b o e z
      · exact absurd (Nat.lt_of_lt_of_le (Heap.lt_size e) (Nat.le_trans I.ok.bsz z)) (Nat.lt_irrefl _)
    · rcases List.mem_cons.mp (I.stkSub b z) with z | z
      · exact (hfp b hb).1.2.1 z
      · exact (hfp b hb).1.2.2.1 z
  have hget : (h'.push ob).get? h'.objs.size = some ob := Heap.get?_push_size _ hob
  refine ⟨okB, rfl, hg, Un.kept kp, ⟨m, ?_, fun i y av e1 e2 e3 => ?_⟩, fun y c e => ?_, ?_, fun y c e => ?_, fun p hp => ?_, I.hok.kept kp, by rw [wipe_length]; exact I.len⟩
  · show Heap.Ns _ ge.locals _
    rw [hL]
    exact hn.push _
  · obtain ⟨e2, hne⟩ := wipe_some e2
    have e3 : scope.names.lookup y = some .local ∨ scope.names.lookup y = some .cell ∨ scope.names.lookup y = some .free := by
      have e3 : ge.scope.names.lookup y = some .local ∨ ge.scope.names.lookup y = some .cell ∨ ge.scope.names.lookup y = some .free := e3
      rwa [hsc] at e3
    have hfr : scope.names.lookup y = some .free := by
      rcases e3 with e3 | e3 | e3
      · exfalso
        rcases ok.own _ (PySem.mem_of_lookup e3) (.inl rfl) with e' | e'
        · obtain ⟨p, hp, hpy⟩ := List.mem_map.mp e'
          have e4 := ok.ix p hp
          have : p.1 = y := hpy
          rw [this] at e4
          exact hne (List.mem_map.mpr ⟨p, hp, nodup_ix hN e4 e1⟩)
        · exact e' (List.mem_of_getElem? e1)
      · exact absurd rfl (gk.cell _ (PySem.mem_of_lookup e3))
      · exact e3
    obtain ⟨m0, hn0, hl0⟩ := I.loc
    have hvis : Vis X.env.scope y := (ok.free _ (PySem.mem_of_lookup hfr) rfl).elim (fun k => .inr (.inl k)) (fun k => .inr (.inr k))
    obtain ⟨w, r, q⟩ := hl0 i y av e1 e2 hvis
    refine ⟨w, r, .inr ⟨.inr (by show ge.scope.names.lookup y = _; rw [hsc]; exact hfr), ?_⟩⟩
    obtain ⟨c, h1, h2⟩ := look hfr
    rcases q with ⟨k, _⟩ | ⟨_, c', e', z⟩
    · have k : X.env.scope.names.lookup y = some .local := k
      rcases ok.free _ (PySem.mem_of_lookup hfr) rfl with k' | k' <;> rw [show X.env.scope.names.lookup y = _ from k'] at k <;> cases k
    · rw [h2] at e'; cases e'
      exact ⟨c, h1, z.keeps kp⟩
  · obtain ⟨w, z⟩ := I.cell y c (cm e).1
    exact ⟨w, z.keeps kp⟩
  · show H ge.locals = none
    rw [hL]; exact I.hok.fresh (Nat.le_refl _)
  · exact I.freeC y c (cm e).1
  · have hp : p ∈ [(h'.objs.size, ob)] ++ ([] : List (Addr × Obj)) := hp
    rw [List.append_nil, List.mem_singleton] at hp
    subst hp
    refine ⟨hget, I.hok.fresh (by rw [hsz]; exact Nat.le_succ _), ?_, fun z => ?_, hd⟩
    · show h'.objs.size ≠ ge.locals
      rw [hL, hsz]
      exact Nat.succ_ne_self _
    · have z : h'.objs.size ∈ frs X.stack := z
      have : h'.objs.size < s.heap.objs.size := by
        rcases List.mem_cons.mp (I.stkSub _ z) with e | e
        · rw [e]; exact I.lt
        · obtain ⟨_, o, ho, _⟩ := I.funs.mem e
          exact Heap.lt_size ho
      rw [hsz] at this
      exact absurd (Nat.lt_of_succ_lt this) (Nat.lt_irrefl _)

/-! ### while a generator sleeps -/
/-- the consumer changed its own objects Ss alone -/
structure Slp (Ss : List Addr) (s s' : Shared) : Prop where
  os : s'.os = s.os
  bare : AllBare s'.gens
  keep : ∀ b o, b ∉ Ss → s.heap.get? b = some o → s'.heap.get? b = some o
  own : ∀ b ∈ Ss, ∃ o, s'.heap.get? b = some o ∧ ∀ v, o.data ≠ .cell v
theorem Slp.inv {Ss : List Addr} {s' : Shared} (z : Slp Ss s s') (I : Inv X pins σ H s) (hf : ∀ b ∈ Ss, FpOk X pins H b) : Inv X pins σ H s' := by
  obtain ⟨z1, z2, z3, z4⟩ := z
  obtain ⟨hh, g, d, t, o⟩ := s'
  have ho : o = s.os := z1
  subst ho
  have nt : ∀ b u, H b = some u → b ∉ Ss := fun b u q hb => by
    rw [(hf b hb).1] at q
    cases q
  refine I.step (g' := g) (t' := t) (d' := d) (ch := Ss) (fun b hb => ⟨(hf b hb).2.2.2.1, (hf b hb).2.1, (hf b hb).2.2.2.2.1, (hf b hb).2.2.2.2.2⟩)
    (fun b ob _ _ hc q _ => z3 b ob hc q) (fun b ob _ _ hc q _ => ⟨ob.slots, z3 b ob hc q⟩) (fun _ _ _ _ n => n) (fun b ob hc q => ⟨ob, z3 b ob hc q⟩)
    (fun _ _ q => q) (fun _ _ _ q => q) (fun b ps q => ⟨#[], by rw [q]; simp⟩) (fun m hm => ?_) (fun b u q => ?_) z2
  · obtain ⟨ob, es, ep, ho, r⟩ := hm
    exact ⟨ob, es, ep, z3 _ ob (fun hb => (hf _ hb).2.1 rfl) ho, r⟩
  · refine (I.hok b u q).stay (fun c v hc y => z3 c v ?_ y) (fun _ y => y) fun _ _ y => y
    rcases hc with y | y
    · rw [y]; exact nt b u q
    · exact nt c _ y
end

/-- what is static of a thing that may turn -/
def FpS (X : Cx) (b : Addr) : Prop := b ≠ X.env.locals ∧ b ∉ X.fs ∧ (b ∈ X.ex ∨ X.s_0.heap.objs.size ≤ b) ∧ (∀ x c, X.env.cells.lookup x = some c → c ≠ b) ∧ ∀ p ∈ X.pn, p.1 ≠ b
theorem FpS.ok {X : Cx} {b : Addr} {H : Hp} {pins : List (Addr × Obj)} (h : FpS X b) (hb : H b = none) (hp : ∀ p ∈ pins, p.1 ≠ b) : FpOk X pins H b :=
  ⟨hb, h.1, h.2.1, h.2.2.1, h.2.2.2.1, fun p q => (List.mem_append.mp q).elim (h.2.2.2.2 p) (hp p)⟩
/-- the items so far grow -/
theorem acc_pre {acc : Nat → List D} {n : Nat} (h : ∀ i, i < n → acc (i + 1) = acc i ∨ ∃ y, acc (i + 1) = acc i ++ [y]) : ∀ k i, i + k = n → acc i <+: acc n
  | 0, i, e => by
    have : i = n := by omega
    subst this
    exact List.prefix_rfl
  | k + 1, i, e => by
    have ih := acc_pre h k (i + 1) (by omega)
    rcases h i (by omega) with q | ⟨y, q⟩
    · rw [← q]; exact ih
    · exact (show acc i <+: acc (i + 1) by rw [q]; exact List.prefix_append _ _).trans ih
theorem pre_get {α : Type} {a b : List α} {y : α} (h : a ++ [y] <+: b) : b[a.length]? = some y := by
  obtain ⟨t, rfl⟩ := h
  rw [List.append_assoc, List.getElem?_append_right (Nat.le_refl _), Nat.sub_self]
  rfl
theorem turn_acc {F : CF} {tg elt : Expr} {ifs : List Expr} {vs : List Nat} {Γ0 : Ga} {d : D} {W W' : OW} {a a' : List D} (h : Turn1 F tg ifs elt vs Γ0 d W a W' a') : a' = a ∨ ∃ y, a' = a ++ [y] := by
  obtain ⟨_, _, _, _, r, _, _, h1, h2⟩ := h
  cases r with
  | true =>
    obtain ⟨y, _, e⟩ := h1 rfl
    exact .inr ⟨y, e⟩
  | false => exact .inl (h2 rfl).2

/-- the consumer's view of its own objects: j items are out -/
structure CsLaw (Ss : List Addr) (Cs : Nat → Hp → Heap → Prop) : Prop where
  mono : ∀ j G G' h h', Cs j G h → Le G G' → (∀ b ∈ Ss, ∀ o, h.get? b = some o → h'.get? b = some o) → (∀ b ∈ Ss, ∃ o, h.get? b = some o) → Cs j G' h'
section
variable (F : CF) (X : Cx) (pins : List (Addr × Obj)) (σ : L2.St) (G1 : Hp) (W1 : OW) (H1 : Hp) (outs : List D) (Ss : List Addr) (Cs : Nat → Hp → Heap → Prop) (a : Addr) (g : Nat)
def GYp : Protocol := fun m s₀ v s kap => ∃ j G2 H2 x d, m + j = outs.length ∧ outs[j]? = some d ∧ RelV x v ∧ Rp F.K G2 x d ∧ Inv X pins σ H2 s ∧ Step F.K F.T G1 W1 H1 G2 W1 H2 ∧ (∀ b ∈ Ss, FpOk X pins H2 b) ∧ Cs j G2 s.heap ∧ s.heap.IsGen a g ∧
  (∀ b ∈ Ss, ∃ o, s.heap.get? b = some o ∧ ∀ v, o.data ≠ .cell v) ∧ ∀ s', Slp Ss s s' → Cs (j + 1) G2 s'.heap → kap (.send .none) s'
def GEnd (s : Shared) : Prop := ∃ G2 H2, Inv X pins σ H2 s ∧ Step F.K F.T G1 W1 H1 G2 W1 H2 ∧ (∀ b ∈ Ss, FpOk X pins H2 b) ∧ Cs outs.length G2 s.heap ∧ ∀ b ∈ Ss, ∃ o, s.heap.get? b = some o ∧ ∀ v, o.data ≠ .cell v
def GRe : GenEnd := fun n s₀ r s => ((r = .ok (.ret .none) ∨ r = .ok .next) ∧ n = 1 ∧ GEnd F X pins σ G1 W1 H1 outs Ss Cs s) ∨ ∃ e, r = .error e ∧ False
end

section
variable {F : CF} {X : Cx} {pins : List (Addr × Obj)} {σ : L2.St} {G1 : Hp} {W1 : OW} {H1 : Hp} {Ss : List Addr} {Cs : Nat → Hp → Heap → Prop} {a : Addr} {g : Nat} {Γ : Ga}
theorem seg_gl {Y : Cx} {A : Around} {scope : Scope} {gpos : Pos} {cd : Value} {ge : Env} {tg iter elt : Expr} {ifs : List Expr} {vs : List Nat} {ds : List D} {Wk : OW → Prop} {acc : Nat → List D} {J : It} {fp : List Addr} {it : Addr} {tn : Nat → Heap → Prop}
    (hF : Sat F X) (hY : Sat (F.gen scope cd) Y) (hYN : F.N.Nodup) (hYe : Y.env = ge) (hYA : Y.A = A.deeper ge) (hYx : Y.xe = fun _ _ => False) (hco : ge.scope.isCoroutine = false) (hpn : ∃ ob, (a, ob) ∈ Y.pn ∧ ∃ nm qn, ob.cls = .type "generator" ∧ ob.data = .fields #[.int g 0, nm, qn] ∧ ob.slots = #[])
    (Tn : Turn F.P F.w F.K tg J fp it tn) (wl : Wlk F J G1 Wk ds) (wk : Wk W1) (sl : Slots F.K G1 Γ σ) (hst : ∀ b ∈ fp ++ Ss, FpS Y b) (hdis : ∀ b ∈ fp, b ∉ Ss) (back : ∀ σ' H' s', Inv Y [] σ' H' s' → (∀ b ∈ Ss, H' b = none) → Inv X pins σ H' s' ∧ ∀ b ∈ Ss, FpOk X pins H' b)
    (law : CsLaw Ss Cs) (hs : ∀ i d, ds[i]? = some d → Turn1 (F.gen scope cd) tg ifs elt vs (wipeG Γ vs) d W1 (acc i) W1 (acc (i + 1))) :
    ∀ (k i : Nat) (s₀ s : Shared) (G2 H2 : Hp), ds.length - i = k → i ≤ ds.length → Inv Y [] (wipe σ vs) H2 s → tn i s.heap → (∀ b ∈ fp ++ Ss, H2 b = none) → (∀ b ∈ Ss, ∃ o, s.heap.get? b = some o ∧ ∀ v, o.data ≠ .cell v) → Step F.K F.T G1 W1 H1 G2 W1 H2 → Cs (acc i).length G2 s.heap →
      Seg (model X.prog X.w) A (GRe F X pins σ G1 W1 H1 (acc ds.length) Ss Cs) (GYp F X pins σ G1 W1 H1 (acc ds.length) Ss Cs a g) ((acc ds.length).length + 1 - (acc i).length) s₀
        (.compLoop (.GeneratorExp elt [⟨tg, iter, ifs, 0⟩] scope gpos) 0 (.ref it) .none ge) ((model X.prog X.w).den (.compLoop (.GeneratorExp elt [⟨tg, iter, ifs, 0⟩] scope gpos) 0 (.ref it) .none ge)) [] s := by
  have eP : F.P = X.prog := hF.P.symm
  have ew : F.w = X.w := hF.w.symm
  have eYP : Y.prog = X.prog := hY.P.trans eP
  have eYw : Y.w = X.w := hY.w.trans ew
  have hov : A.over (.compLoop (.GeneratorExp elt [⟨tg, iter, ifs, 0⟩] scope gpos) 0 (.ref it) .none ge) [] = A.deeper ge := rfl
  have pre := acc_pre (acc := acc) (n := ds.length) fun i hi => turn_acc (hs i ds[i] (List.getElem?_eq_getElem hi))
  rw [eP, ew] at Tn
  intro k
  induction k with
  | zero =>
    intro i s₀ s G2 H2 hk hi I ti hn ho st hC
    have hin : i = ds.length := by omega
    subst hin
    rw [Nat.add_sub_cancel_left]
    obtain ⟨_, w2⟩ := wl G2 W1 H2 st.le st.hk wk ds.length
    show Seg _ A _ _ _ s₀ _ ((compTurn (.GeneratorExp elt [⟨tg, iter, ifs, 0⟩] scope gpos) 0 (.ref it) .none ge).onRaise (leaving ge)) [] s
    rw [compTurn_gen, Sem.onRaise_eq_wrap]
    refine seg_bind_wrap (wpAny_standAt ?_)
    have I1 := I.pinned (pins := []) (fp := Ss) (fun b hb => (hst b (List.mem_append_right _ hb)).ok (hn b (List.mem_append_right _ hb)) (by simp)) ho
    have td := Tn.done Y eYP eYw hY.K hY.calm ds.length _ s _ H2 (fun _ _ => False) I1 (fun b hb => (hst b (List.mem_append_left _ hb)).ok (hn b (List.mem_append_left _ hb)) (fun p hp => ?_)) ti (w2 (Nat.le_refl _))
    · rw [hYA] at td
      refine seg_bind_wrap ?_
      rw [hov]
      refine thnF td fun r s1 ⟨hr, I2⟩ => ?_
      subst hr
      have same : ∀ b ∈ Ss, ∀ o, s.heap.get? b = some o → s1.heap.get? b = some o := fun b hb o e => (I2.pin (b, o) (List.mem_append_right _ (List.mem_append_right _ (mem_pinsAt hb e)))).1
      obtain ⟨b1, b2⟩ := back _ _ _ (I2.unpinned (pins := [])) fun b hb => hn b (List.mem_append_right _ hb)
      exact seg_end (.ok .next) (.inl ⟨.inr rfl, rfl, G2, H2, b1, st, b2, law.mono _ _ _ _ _ hC (Le.refl _) same fun b hb => (ho b hb).imp fun _ z => z.1, fun b hb => (ho b hb).imp fun o z => ⟨same b hb o z.1, z.2⟩⟩)
    · rcases List.mem_append.mp hp with hp | hp
      · cases hp
      · intro z
        exact hdis b hb (z ▸ (of_pinsAt hp).1)
  | succ k ih =>
    intro i s₀ s G2 H2 hk hi I ti hn ho st hC
    have hlt : i < ds.length := by omega
    have hget : ds[i]? = some ds[i] := List.getElem?_eq_getElem hlt
    obtain ⟨w1, _⟩ := wl G2 W1 H2 st.le st.hk wk i
    obtain ⟨go, w3⟩ := w1 ds[i] hget
    obtain ⟨Γ1, ts, hg, hts, r, Wx, ht, h1, h2⟩ := hs i ds[i] hget
    show Seg _ A _ _ _ s₀ _ ((compTurn (.GeneratorExp elt [⟨tg, iter, ifs, 0⟩] scope gpos) 0 (.ref it) .none ge).onRaise (leaving ge)) [] s
    rw [compTurn_gen, Sem.onRaise_eq_wrap]
    refine seg_bind_wrap (wpAny_standAt ?_)
    have I1 := I.pinned (pins := []) (fp := Ss) (fun b hb => (hst b (List.mem_append_right _ hb)).ok (hn b (List.mem_append_right _ hb)) (by simp)) ho
    have dp : ∀ b ∈ fp, ∀ p ∈ [] ++ pinsAt Ss s.heap, p.1 ≠ b := fun b hb p hp => by
      rcases List.mem_append.mp hp with hp | hp
      · cases hp
      · intro z
        exact hdis b hb (z ▸ (of_pinsAt hp).1)
    have td := Tn.item Y eYP eYw hY.K hY.calm i _ s _ H2 (fun _ _ => False) I1 (fun b hb => (hst b (List.mem_append_left _ hb)).ok (hn b (List.mem_append_left _ hb)) (dp b hb)) ti go
    rw [hYA] at td
    refine seg_bind_wrap ?_
    rw [hov]
    refine thnF td fun r0 s1 ⟨u, hr, h6⟩ => ?_
    subst hr
    refine seg_bind_wrap ?_
    rw [hov]
    refine thnF h6 fun _ s2 ⟨x, H3, I3, rx, y3, ti3, n3⟩ => ?_
    obtain ⟨s3, yp⟩ := w3 x H3 y3
    have I3' := I3.pinned (fun b hb => (hst b (List.mem_append_left _ hb)).ok (n3 b hb) (dp b hb)) (Tn.obj _ _ ti3)
    have slG : Slots F.K G2 (wipeG Γ vs) (wipe σ vs) := (sl.mono st.le).wipe vs
    have st3 := st.trans s3
    have pg := (cG_pg (tg := tg) (S := SatG (F.gen scope cd)) ⟨hY, by rw [hY.N]; exact hYN⟩).run _ s2 _ H3 x u (fun σ4 H4 => H4 = H3 ∧ Slots F.K G2 Γ1 σ4 ∧ But ts (wipe σ vs) σ4) I3' rx (hg G2 H3 x (wipe σ vs) _ slG s3.hk.sub yp fun σ4 sl4 bt => ⟨rfl, sl4, bt⟩)
    rw [eYP, eYw, hYe, hYA, hYx] at pg
    refine seg_bind_wrap ?_
    rw [hov]
    refine thnF pg fun _ s4 ⟨σ4, H4, I4, e4, sl4, bt⟩ => ?_
    subst e4
    have pt := (cTs_pts (F := F.gen scope cd) (ifs := ifs) hY).run _ s4 σ4 H4 (fun b H5 => b = r ∧ ∃ G5, Step F.K F.T G2 W1 H4 G5 Wx H5) I4 (ht G2 H4 σ4 _ sl4 s3.hk fun G5 H5 s5 => ⟨rfl, G5, s5⟩)
    rw [eYP, eYw, hYe, hYA, hYx] at pt
    refine seg_bind_wrap ?_
    rw [hov]
    refine thnF pt fun b s5 ⟨H5, I5, e5, G5, st5⟩ => ?_
    subst e5
    -- the turn's end
    have fin : ∀ {s' : Shared} {H' : Hp}, Inv Y (([] ++ pinsAt Ss s.heap) ++ pinsAt fp s2.heap) σ4 H' s' → Inv Y [] (wipe σ vs) H' s' ∧ tn (i + 1) s'.heap ∧ (∀ b ∈ fp ++ Ss, H' b = none) ∧ (∀ b ∈ Ss, ∀ o, s.heap.get? b = some o → s'.heap.get? b = some o) := fun {s' H'} I' => by
      have pf : ∀ b ∈ fp, ∀ o, s2.heap.get? b = some o → s'.heap.get? b = some o ∧ H' b = none := fun b hb o e =>
        let z := I'.pin (b, o) (List.mem_append_right _ (List.mem_append_right _ (mem_pinsAt hb e)))
        ⟨z.1, z.2.1⟩
      have ps : ∀ b ∈ Ss, ∀ o, s.heap.get? b = some o → s'.heap.get? b = some o ∧ H' b = none := fun b hb o e =>
        let z := I'.pin (b, o) (List.mem_append_right _ (List.mem_append_left _ (List.mem_append_right _ (mem_pinsAt hb e))))
        ⟨z.1, z.2.1⟩
      have hw := wipe_but bt hts
      refine ⟨((I'.unpinned).unpinned (pins := [])).weak (by rw [← hw, wipe_length]) (fun j v e => (wipe_some (vs := vs) (by rw [hw]; exact e)).1), Tn.keep _ _ _ ti3 fun b hb o e => (pf b hb o e).1, fun b hb => ?_, fun b hb o e => (ps b hb o e).1⟩
      rcases List.mem_append.mp hb with hb | hb
      · obtain ⟨o, e, _⟩ := Tn.obj _ _ ti3 b hb
        exact (pf b hb o e).2
      · obtain ⟨o, e, _⟩ := ho b hb
        exact (ps b hb o e).2
    cases b with
    | false =>
      obtain ⟨e6, e7⟩ := h2 rfl
      subst e6
      simp only [Bool.false_eq_true, if_false]
      obtain ⟨f1, f2, f3, f4⟩ := fin I5
      rw [← e7] at hC ⊢
      exact seg_again rfl (ih (i + 1) s₀ s5 G5 H5 (by omega) hlt f1 f2 f3 (fun b hb => by
        obtain ⟨o, e, z⟩ := ho b hb
        exact ⟨o, f4 b hb o e, z⟩) (st3.trans st5) (law.mono _ _ _ _ _ hC st5.le f4 fun b hb => (ho b hb).imp fun _ z => z.1))
    | true =>
      obtain ⟨y, he, e7⟩ := h1 rfl
      simp only [if_true]
      have hy : ∀ v, yieldOut ge v = yieldValue v := fun v => by simp only [yieldOut, hco, Bool.false_eq_true, if_false]
      simp only [hy]
      have hpre : acc i ++ [y] <+: acc ds.length := by
        rw [← e7]
        exact pre (ds.length - (i + 1)) (i + 1) (by omega)
      have hle := hpre.length_le
      rw [List.length_append, List.length_singleton] at hle
      have eN : (acc ds.length).length + 1 - (acc i).length = ((acc ds.length).length + 1 - (acc (i + 1)).length) + 1 := by
        rw [e7, List.length_append, List.length_singleton]
        omega
      rw [eN, Sem.bind_eq_wrap', Sem.bind_eq_wrap', Sem.wrap_wrap, Sem.wrap_wrap]
      have pe := (cE_pe (F := F.gen scope cd) (e := elt) hY).run _ s5 σ4 H5 (fun v H6 => ∃ G6, Step F.K F.T G5 Wx H5 G6 W1 H6 ∧ Rp F.K G6 v y) I5 (he G5 H5 σ4 _ (sl4.mono st5.le) st5.hk fun v G6 H6 s6 r6 => ⟨G6, s6, r6⟩)
      rw [eYP, eYw, hYe, hYA, hYx] at pe
      refine seg_wrap ?_
      rw [hov]
      refine thnF pe fun v6 s6 ⟨v, H6, I6, rv, G6, st6, r6⟩ => ?_
      obtain ⟨f1, f2, f3, f4⟩ := fin I6
      obtain ⟨b1, b2⟩ := back _ _ _ f1 fun b hb => f3 b (List.mem_append_right _ hb)
      obtain ⟨ob, hpo, nm, qn, o1, o2, o3⟩ := hpn
      have hS6 : ∀ b ∈ Ss, ∃ o, s6.heap.get? b = some o ∧ ∀ v, o.data ≠ .cell v := fun b hb => by
        obtain ⟨o, e, z⟩ := ho b hb
        exact ⟨o, f4 b hb o e, z⟩
      refine seg_at (seg_yield rfl rfl rfl ⟨(acc i).length, G6, H6, v, y, ?_, pre_get hpre, rv, r6, b1, (st3.trans st5).trans st6, b2, law.mono _ _ _ _ _ hC (st5.le.trans st6.le) f4 fun b hb => (ho b hb).imp fun _ z => z.1, ⟨ob, nm, qn, (f1.pin (a, ob) (List.mem_append_left _ hpo)).1, o1, o2, o3⟩, hS6, fun s' z hC' => ?_⟩)
      · rw [e7, List.length_append, List.length_singleton]
        omega
      · have nSs : ∀ b ∈ Ss, FpOk Y [] H6 b := fun b hb => (hst b (List.mem_append_right _ hb)).ok (f3 b (List.mem_append_right _ hb)) (by simp)
        refine seg_again rfl (ih (i + 1) s' s' G6 H6 (by omega) hlt (z.inv f1 nSs) (Tn.keep _ _ _ f2 fun b hb o e => z.keep b o (hdis b hb) e) f3 z.own ((st3.trans st5).trans st6) ?_)
        rw [e7, List.length_append, List.length_singleton]
        exact hC'
end

/-! ### the consumer's side -/
section
variable (F : CF) (X : Cx) (pins : List (Addr × Obj)) (σ : L2.St) (G1 : Hp) (W1 : OW) (H1 : Hp) (outs : List D) (A : Around) (Ss : List Addr) (Cs : Nat → Hp → Heap → Prop) (a : Addr) (g : Nat)
/-- the generator sleeps, j items are out -/
def Asl (j : Nat) (s : Shared) : Prop := s.heap.IsGen a g ∧ (∀ b ∈ Ss, ∃ o, s.heap.get? b = some o ∧ ∀ v, o.data ≠ .cell v) ∧ ∃ G2 H2, Inv X pins σ H2 s ∧ Step F.K F.T G1 W1 H1 G2 W1 H2 ∧ (∀ b ∈ Ss, FpOk X pins H2 b) ∧ Cs j G2 s.heap ∧ ∃ gs, s.gens[g]? = some gs ∧
  ∀ s', Slp Ss s s' → Cs j G2 s'.heap → gs.Goes (model X.prog X.w) A.in1 (GRe F X pins σ G1 W1 H1 outs Ss Cs) (GYp F X pins σ G1 W1 H1 outs Ss Cs a g) (outs.length + 1 - j) (.send .none) s'
end
section
variable {F : CF} {X : Cx} {pins : List (Addr × Obj)} {σ : L2.St} {G1 : Hp} {W1 : OW} {H1 : Hp} {outs : List D} {A : Around} {Ss : List Addr} {Cs : Nat → Hp → Heap → Prop} {a : Addr} {g : Nat}
theorem Slp.refl {s : Shared} (hb : AllBare s.gens) (h : ∀ b ∈ Ss, ∃ o, s.heap.get? b = some o ∧ ∀ v, o.data ≠ .cell v) : Slp Ss s s := ⟨rfl, hb, fun _ _ _ e => e, h⟩
theorem Slp.trans {s s1 s2 : Shared} (x : Slp Ss s s1) (y : Slp Ss s1 s2) : Slp Ss s s2 := ⟨y.os.trans x.os, y.bare, fun b o n e => y.keep b o n (x.keep b o n e), y.own⟩
theorem gens_lt {s : Shared} {g : Nat} {gs : GenState} (h : s.gens[g]? = some gs) : g < s.gens.size := (Array.getElem?_eq_some_iff.mp h).1
/-- an item -/
theorem Asl.item {j : Nat} {s : Shared} {Q : Option Value → Shared → Prop} {E : Value → Shared → Prop} (h : Asl F X pins σ G1 W1 H1 outs A Ss Cs a g j s) (hc : X.calm = true) (hh : A.handled = none) (hd : A.depth < recursionLimit) (hj : j < outs.length)
    (hQ : ∀ v s1 x d G2 H2, outs[j]? = some d → RelV x v → Rp F.K G2 x d → Inv X pins σ H2 s1 → Step F.K F.T G1 W1 H1 G2 W1 H2 → (∀ b ∈ Ss, FpOk X pins H2 b) → (∀ b ∈ Ss, ∃ o, s1.heap.get? b = some o ∧ ∀ v, o.data ≠ .cell v) → Cs j G2 s1.heap →
      (∀ s2, Slp Ss s1 s2 → s2.gens = s1.gens → s2.heap.IsGen a g → Cs (j + 1) G2 s2.heap → Asl F X pins σ G1 W1 H1 outs A Ss Cs a g (j + 1) s2) → s1.heap.IsGen a g → Q (some v) s1) :
    wpAny (model X.prog X.w) A (pyNext (.ref a)) Q E s := by
  obtain ⟨hg, hS, G2, H2, I, st, hf, hC, gs, hgs, goes⟩ := h
  have lt := gens_lt hgs
  refine wpAny_gsz (n := g + 1) lt ?_
  refine next_genG (n := outs.length + 1 - j) (F := fun n s₀ s => n = 1 ∧ GEnd F X pins σ G1 W1 H1 outs Ss Cs s) (Er := fun _ _ => False) (Y := GYp F X pins σ G1 W1 H1 outs Ss Cs a g) hh I.nolimit hd hg hgs
    (goes _ ⟨rfl, allBare_setGen I.bare rfl, fun _ _ _ e => e, hS⟩ hC) (fun v s1 gs' hb hy => ?_) (fun s1 he h' hk => ?_) (fun _ _ z => z.elim)
  · obtain ⟨j', G3, H3, x, d, e1, e2, rv, rp, I3, st3, hf3, hC3, hg3, hS3, kap⟩ := hy
    have : j' = j := by omega
    subst this
    intro hsz
    have lt1 : g < s1.gens.size := by
      have q : (s1.setGen g gs').gens.size = s1.gens.size := setGen_size s1 g gs'
      omega
    have I4 : Inv X pins σ H3 (s1.setGen g gs') := (show Slp Ss s1 (s1.setGen g gs') from ⟨rfl, allBare_setGen I3.bare hb, fun _ _ _ e => e, hS3⟩).inv I3 hf3
    refine hQ v _ x d G3 H3 e2 rv rp I4 st3 hf3 hS3 hC3 (fun s2 z eg ig c2 => ⟨ig, z.own, G3, H3, z.inv I4 hf3, st3, hf3, c2, gs', ?_, fun s4 z4 c4 => ?_⟩) hg3
    · rw [eg]
      exact setGen_at lt1
    · have e5 : outs.length + 1 - j' = (outs.length + 1 - (j' + 1)) + 1 := by omega
      have kk := kap s4 ⟨z4.os.trans z.os, z4.bare, fun b o n e => z4.keep b o n (z.keep b o n e), z4.own⟩ c4
      rw [e5] at kk
      exact kk
  · omega
/-- the end -/
theorem Asl.done {s : Shared} {Q : Option Value → Shared → Prop} {E : Value → Shared → Prop} (law : CsLaw Ss Cs) (h : Asl F X pins σ G1 W1 H1 outs A Ss Cs a g outs.length s) (hc : X.calm = true) (hh : A.handled = none) (hd : A.depth < recursionLimit)
    (hQ : ∀ s1 G2 H2, Inv X pins σ H2 s1 → Step F.K F.T G1 W1 H1 G2 W1 H2 → (∀ b ∈ Ss, FpOk X pins H2 b) → Cs outs.length G2 s1.heap → Q none s1) :
    wpAny (model X.prog X.w) A (pyNext (.ref a)) Q E s := by
  obtain ⟨hg, hS, G2, H2, I, st, hf, hC, gs, hgs, goes⟩ := h
  refine next_genG (n := outs.length + 1 - outs.length) (F := fun n s₀ s => n = 1 ∧ GEnd F X pins σ G1 W1 H1 outs Ss Cs s) (Er := fun _ _ => False) (Y := GYp F X pins σ G1 W1 H1 outs Ss Cs a g) hh I.nolimit hd hg hgs
    (goes _ ⟨rfl, allBare_setGen I.bare rfl, fun _ _ _ e => e, hS⟩ hC) (fun v s1 gs' hb hy => ?_) (fun s1 he h' hk => ?_) (fun _ _ z => z.elim)
  · obtain ⟨j', G3, H3, x, d, e1, e2, _⟩ := hy
    have := (List.getElem?_eq_some_iff.mp e2).1
    omega
  · obtain ⟨_, G3, H3, I3, st3, hf3, hC3, hS3⟩ := he
    refine hQ _ G3 H3 ((show Slp Ss s1 { s1.setGen g .finished with heap := h' } from ⟨rfl, allBare_setGen I3.bare rfl, fun b o _ e => hk b o e, fun b hb => ?_⟩).inv I3 hf3) st3 hf3 (law.mono _ _ _ _ _ hC3 (Le.refl _) (fun b _ o e => hk b o e) fun b hb => (hS3 b hb).imp fun _ z => z.1)
    obtain ⟨o, e, z⟩ := hS3 b hb
    exact ⟨o, hk b o e, z⟩
end

theorem ad_out {b n : Nat} (h1 : b < n) (h2 : n + 2 ≤ b) : False := by omega
theorem ad_ne {b n : Nat} (h2 : n + 2 ≤ b) : b ≠ n := by omega
theorem ad_ne1 {b n m : Nat} (h1 : m = n + 1) (h2 : n + 2 ≤ b) : m ≠ b := by omega
theorem ad_ne2 {b n m : Nat} (h1 : m = n + 1) (h2 : b < n) : m ≠ b := by omega
/-! ### its making -/
/-- a generator expression's value: who takes its items may begin -/
def GMk (F : CF) (X : Cx) (pins : List (Addr × Obj)) (σ : L2.St) (G : Hp) (W : OW) (H : Hp) (W1 : OW) (outs : List D) (u : Value) (s5 : Shared) : Prop :=
  ∃ (a : Addr) (g : Nat) (G1 H1 : Hp), u = .ref a ∧ a < s5.heap.objs.size ∧ s5.heap.IsGen a g ∧ s5.heap.NoLimit ∧ Inv X pins σ H1 s5 ∧ Step F.K F.T G W H G1 W1 H1 ∧ ∀ (A : Around) (Ss : List Addr) (Cs : Nat → Hp → Heap → Prop) (s6 : Shared), A.handled = none → A.frames = some X.stack → Room (F.k - 1) A → CsLaw Ss Cs →
    (∀ b o, s5.heap.get? b = some o → s6.heap.get? b = some o) → s6.os = s5.os → s6.gens = s5.gens → (∀ b ∈ Ss, s5.heap.objs.size ≤ b ∧ ∃ o, s6.heap.get? b = some o ∧ ∀ v, o.data ≠ .cell v) → (∀ G, Cs 0 G s6.heap) →
    Asl F X pins σ G1 W1 H1 outs A Ss Cs a g 0 s6
/-- what the making of generator expressions asks of the def: its code object's table -/
structure GTab (F : CF) : Prop where
  ex : ∃ c P, F.cd = .ref c ∧ GxR.TabB F.base F.mg c P ∧ P ∈ F.T.g ∧ P ∉ F.T.l.map (·.1)
theorem gen_mk {F : CF} {X : Cx} {pins : List (Addr × Obj)} {σ : L2.St} {G H : Hp} {W W1 : OW} {s : Shared} {Γ : Ga} {tg iter elt : Expr} {ifs : List Expr} {scope : Scope} {gpos : Pos} {own : List (Str × Nat)} {ds : List D} {Wk : OW → Prop} {acc : Nat → List D}
    (hX : Sat F X) (gt : GTab F) (hk2 : 3 ≤ F.k) (hN : F.N.Nodup) (ok : BlkOk F.N F.sc scope own) (gk : GScp scope) (hi : EI F tg iter Γ W ds Wk W1) (wk : Wk W1) (h0 : acc 0 = []) (hs : ∀ cd i d, ds[i]? = some d → Turn1 (F.gen scope cd) tg ifs elt (own.map (·.2)) (wipeG Γ (own.map (·.2))) d W1 (acc i) W1 (acc (i + 1)))
    (I : Inv X pins σ H s) (sl : Slots F.K G Γ σ) (hk : Hk F.K F.T G W H) (hf : ∀ env v, genFold iter env v = pure v) :
    wpAny (model X.prog X.w) X.A (eval (.GeneratorExp elt [⟨tg, iter, ifs, 0⟩] scope gpos) X.env) (GMk F X pins σ G W H W1 (acc ds.length)) X.xe s := by
  obtain ⟨c, P, hcd, TB, hP, hPl⟩ := gt.ex
  have okX : BlkOk X.N X.env.scope scope own := by rw [hX.N, hX.sc]; exact ok
  have hfree : ∀ y ∈ scope.names, y.2 = .free → ∃ c, X.env.cells.lookup y.1 = some c := fun y hy e => by
    rcases okX.free y hy e with k | k
    · exact I.ok.has _ (.inl k)
    · exact I.ok.has _ (.inr k)
  have hrd := hX.room.dp
  refine wpAny_GeneratorExp_make gk.co (closure_ok hfree) gk.cell gk.dot ok.kind (by omega) ?_ (hf _)
  refine thn ((cI_pi (tg := tg) (iter := iter) hX).run pins s σ H (fun J H1 => ∃ G1, Step F.K F.T G W H G1 W1 H1 ∧ Wlk F J G1 Wk ds) I (hi G H σ _ sl hk fun J G1 H1 st wl => ⟨G1, st, wl⟩)) fun xv s1 hx => thn hx fun itv s2 h2 => ?_
  obtain ⟨it, fp, tn, J, H2, e, I2, Tn, ti2, f2, G1, st2, wl⟩ := h2
  subst e
  refine ⟨I2.nolimit, ?_⟩
  obtain ⟨ps, hPt, ht⟩ := st2.hk.tab.1 P hP
  have hcode : X.env.code = .ref c := hX.cd.trans hcd
  rw [← hX.base, ← hX.mg] at TB
  have hPs : s2.heap.get? P = some { cls := .none, data := .fields ps } := I2.hok P _ hPt
  have cd := TB.code.keeps I2.bk
  have cont : ∀ (code : Value) (h3 : Heap) (tk : Nat) (ps' more : Array Value), ps' = ps ++ more → (∀ b o, b ≠ P → s2.heap.get? b = some o → h3.get? b = some o) → h3.get? P = some { cls := .none, data := .fields ps' } → TriplesOk ps'.toList →
      wpAny (model X.prog X.w) X.A (builtinsFor X.env.globals X.env.builtins) (fun bi s₄ =>
        ∀ h', h'.Ns s₄.heap.objs.size (fun y => if y = ".0" then some (.ref it) else none) → Heap.SameBut s₄.heap.objs.size (s₄.heap.push { cls := .type "frame", data := .dict #[] }) h' →
          GMk F X pins σ G W H W1 (acc ds.length) (.ref h'.objs.size) { s₄ with
            gens := s₄.gens.push (.fresh (.compStart (.GeneratorExp elt [⟨tg, iter, ifs, 0⟩] scope gpos) 0 (.ref it) .none (genEnv scope (cloFrom X.env.cells scope.names []) s₄.heap.objs.size code bi X.env))),
            toks := s₄.toks + 1 + 1 + 1,
            heap := h'.push { cls := .type "generator", data := .fields #[.int s₄.gens.size 0, .str "<genexpr>" (s₄.toks + 1), .str (X.env.qual ++ "<genexpr>") (s₄.toks + 1 + 1)] } }) X.xe { s2 with heap := h3, toks := tk } := by
    intro code h3 tk ps' more em hx hP3 ht3
    obtain ⟨bm, ob, e1, e2, e3, e4, e5, e6, e7, e8⟩ := TB.bm
    have nP : ∀ b, H2 b = none → b ≠ P := fun b q z => by
      rw [z, hPt] at q
      cases q
    have keep3 : ∀ b u, b ≠ P → s2.heap.get? b = some u → h3.get? b = some u := hx
    have J3 : Inv X pins σ (upd H2 P (.tbl (ps ++ more))) { s2 with heap := h3, toks := tk } :=
      GxR.inv_tab (g' := s2.gens) (d' := s2.drawn) I2 hPt (fun b o hb e => hx b o hb e) (by rw [← em]; exact hP3) I2.bare
    refine wpAny_builtinsFor (m := X.mg) (by rw [I2.ok.glob]; exact J3.mod.glob.keeps J3.bk) e1 e2 (J3.bk _ _ e5) e6 e7 e8 ?_
    intro h' hn hsb
    generalize hs4 : ({ s2 with heap := h3, toks := tk } : Shared) = s4 at J3 hn hsb ⊢
    have h34 : s4.heap = h3 := by rw [← hs4]
    have os4 : s4.os = s2.os := by rw [← hs4]
    rw [h34] at hn hsb ⊢
    have st4 := st2.trans (st2.hk.grow hPt (ps' := ps ++ more) (by rw [← em]; exact ht3) hPl)
    have ti4 : tn 0 s4.heap := Tn.keep _ _ _ ti2 fun b hb o e => by rw [h34]; exact keep3 b o (nP b (f2 b hb).1) e
    have fp4 : ∀ b ∈ fp, FpOk X pins (upd H2 P (.tbl (ps ++ more))) b ∧ b < s4.heap.objs.size := fun b hb => by
      obtain ⟨o, e, _⟩ := Tn.obj _ _ ti4 b hb
      exact ⟨⟨by rw [upd_ne (nP b (f2 b hb).1)]; exact (f2 b hb).1, (f2 b hb).2⟩, Heap.lt_size e⟩
    generalize hH4 : upd H2 P (.tbl (ps ++ more)) = H4 at J3 st4 fp4
    have hsz : h'.objs.size = s4.heap.objs.size + 1 := by rw [hsb.1, Heap.size_push, h34]
    generalize hob : ({ cls := .type "generator", data := .fields #[.int s4.gens.size 0, .str "<genexpr>" (s4.toks + 1), .str (X.env.qual ++ "<genexpr>") (s4.toks + 1 + 1)] } : Obj) = ob
    have hobc : ob.cls = .type "generator" ∧ ob.data = .fields #[.int s4.gens.size 0, .str "<genexpr>" (s4.toks + 1), .str (X.env.qual ++ "<genexpr>") (s4.toks + 1 + 1)] ∧ ob.slots = #[] := by rw [← hob]; exact ⟨rfl, rfl, rfl⟩
    have hobf : ob.isFreed = false := by rw [← hob]; rfl
    have kp5 : ∀ b o, s4.heap.get? b = some o → (h'.push ob).get? b = some o := fun b o e => by
      rw [h34] at e
      exact Heap.get?_push_of_some _ (hsb.extBut b o (Nat.ne_of_lt (Heap.lt_size e)) (Heap.get?_push_of_some _ e))
    have hget : (h'.push ob).get? h'.objs.size = some ob := Heap.get?_push_size _ hobf
    generalize hgc : GenState.fresh (.compStart (.GeneratorExp elt [⟨tg, iter, ifs, 0⟩] scope gpos) 0 (.ref it) .none (genEnv scope (cloFrom X.env.cells scope.names []) h3.objs.size code builtinsNs X.env)) = gfr
    have hgb : gfr.bare = true := by rw [← hgc]; rfl
    generalize hs5 : ({ s4 with gens := s4.gens.push gfr, toks := s4.toks + 1 + 1 + 1, heap := h'.push ob } : Shared) = s5
    have h5 : s5.heap = h'.push ob := by rw [← hs5]
    have os5 : s5.os = s4.os := by rw [← hs5]
    have g5 : s5.gens = s4.gens.push gfr := by rw [← hs5]
    have bare5 : AllBare s5.gens := by rw [g5]; exact J3.bare.push hgb
    have hgen : s5.heap.IsGen h'.objs.size s4.gens.size := by rw [h5]; exact ⟨ob, _, _, hget, hobc.1, hobc.2.1, hobc.2.2⟩
    have J5 : Inv X pins σ H4 s5 := (show Slp [] s4 s5 from ⟨os5, bare5, fun b o _ e => by rw [h5]; exact kp5 b o e, fun b hb => by cases hb⟩).inv J3 fun b hb => by cases hb
    refine ⟨h'.objs.size, s4.gens.size, G1, H4, rfl, ?_, hgen, J5.nolimit, J5, st4, fun A Ss Cs s6 hA1 hA2 hr law k6 os6 g6 hS hC0 => ?_⟩
    · rw [h5, Heap.size_push]
      exact Nat.lt_succ_self _
    · have S4 : ∀ b ∈ Ss, s4.heap.objs.size + 2 ≤ b := fun b hb => by
        have := (hS b hb).1
        rw [h5, Heap.size_push, hsz] at this
        exact this
      have sl6 : Slp Ss s5 s6 := ⟨os6, by rw [g6]; exact bare5, fun b o _ e => k6 b o e, fun b hb => (hS b hb).2⟩
      have fS : ∀ b ∈ Ss, FpOk X pins H4 b := fun b hb => J3.fpOk (by have := S4 b hb; omega) (J3.hok.fresh (by have := S4 b hb; omega))
      have Y0 := gn_start (A := A.in1.deeper (genEnv scope (cloFrom X.env.cells scope.names []) s4.heap.objs.size code builtinsNs X.env)) (code := code) (gs := s5.gens) (tk := s4.toks + 1 + 1 + 1) (own := own) (fp := fp) (scope := scope) (h' := h') (ob := ob) (m := fun y => if y = ".0" then some (.ref it) else none)
        J3 okX gk (by rw [hX.N]; exact hN) fp4 (by show (A.frames).map _ = _; rw [hA2]; rfl) (fun _ => hA1) (by rw [h34]; exact hn) (by rw [h34]; exact hsb) (fun v e => by rw [hobc.2.1] at e; cases e) hobf bare5
      have e5 : ({ s4 with gens := s5.gens, toks := s4.toks + 1 + 1 + 1, heap := h'.push ob } : Shared) = s5 := by rw [← hs5]
      rw [e5] at Y0
      rw [← h34] at hgc
      generalize hge : genEnv scope (cloFrom X.env.cells scope.names []) s4.heap.objs.size code builtinsNs X.env = ge at Y0 hgc
      have geL : ge.locals = s4.heap.objs.size := by rw [← hge]; rfl
      have geS : ge.scope = scope := by rw [← hge]; rfl
      have geC : ge.cells = cloFrom X.env.cells scope.names [] := by rw [← hge]; rfl
      have geD : ge.code = code := by rw [← hge]; rfl
      have geQ : ge.qual = F.q ++ "<genexpr>." := by rw [← hge, ← hX.qual]; rfl
      refine ⟨hgen.keeps k6, fun b hb => (hS b hb).2, G1, H4, sl6.inv J5 fS, .refl st4.hk, fS, hC0 _, gfr, ?_, fun s'' z hC => ?_⟩
      · rw [g6, g5]
        exact Array.getElem?_push_size ..
      · have hst : ∀ b ∈ fp ++ Ss, FpS (gnCx X s4 H4 ge fp [(h'.objs.size, ob)] (A.in1.deeper ge)) b := fun b hb => by
          have hcm : ∀ y c, ge.cells.lookup y = some c → X.env.cells.lookup y = some c ∧ c < s4.heap.objs.size := fun y c e => by
            rw [geC] at e
            rcases cloFrom_mem (PySem.mem_of_lookup e) with hm | ⟨h1, rfl⟩
            · cases hm
            · obtain ⟨c, hc⟩ := hfree _ h1 rfl
              rw [hc]
              obtain ⟨w, q⟩ := J3.cell _ _ hc
              exact ⟨rfl, q.lt⟩
          rcases List.mem_append.mp hb with hb | hb
          · have hlt := (fp4 b hb).2
            refine ⟨by show b ≠ ge.locals; rw [geL]; exact Nat.ne_of_lt hlt, fun q => ?_, .inl hb, fun y c e q => ?_, fun p hp => ?_⟩
            · rcases List.mem_cons.mp (J3.stkSub b q) with q | q
              · exact (fp4 b hb).1.2.1 q
              · exact (fp4 b hb).1.2.2.1 q
            · exact (fp4 b hb).1.2.2.2.2.1 y c (hcm y c e).1 q
            · have hp : p ∈ [(h'.objs.size, ob)] := hp
              rw [List.mem_singleton] at hp
              subst hp
              exact ad_ne2 hsz hlt
          · have hge2 := S4 b hb
            refine ⟨by show b ≠ ge.locals; rw [geL]; exact ad_ne hge2, fun q => ?_, .inr (Nat.le_trans (Nat.le_add_right _ 2) hge2), fun y c e q => ?_, fun p hp => ?_⟩
            · have hlt : b < s4.heap.objs.size := by
                rcases List.mem_cons.mp (J3.stkSub b q) with e | e
                · rw [e]; exact J3.lt
                · obtain ⟨_, o, ho, _⟩ := J3.funs.mem e
                  exact Heap.lt_size ho
              exact ad_out hlt hge2
            · exact ad_out (hcm y c e).2 (q ▸ hge2)
            · have hp : p ∈ [(h'.objs.size, ob)] := hp
              rw [List.mem_singleton] at hp
              subst hp
              exact ad_ne1 hsz hge2
        have hdis : ∀ b ∈ fp, b ∉ Ss := fun b hb q => by
          exact ad_out (fp4 b hb).2 (S4 b q)
        have nSs : ∀ b ∈ fp ++ Ss, H4 b = none := fun b hb => by
          rcases List.mem_append.mp hb with hb | hb
          · exact (fp4 b hb).1.1
          · exact (fS b hb).1
        have YS : Sat (F.gen scope code) (gnCx X s4 H4 ge fp [(h'.objs.size, ob)] (A.in1.deeper ge)) := ⟨hX.P, hX.w, hX.K, hX.mg, hX.base, hX.N, geS, geD, by
          refine Room.deeper (k := F.k - 3) (A := A.in1) ⟨hA1, ?_, ?_⟩ ge
          · have := hr.dp
            show A.depth + 3 * (F.k - 3 + 1) + 5 < _
            omega
          · have := hr.un
            show A.units + 1 + 16 * (F.k - 3 + 1) + 200 < _
            omega, hX.calm, passL, geQ, fun _ e => nomatch e⟩
        have gl := seg_gl (pins := pins) (iter := iter) (a := h'.objs.size) (g := s4.gens.size) (gpos := gpos) (A := A.in1) (vs := own.map (·.2)) (acc := acc) hX YS hN rfl rfl rfl (by rw [geS]; exact gk.co) ⟨ob, List.mem_singleton.mpr rfl, _, _, hobc.1, hobc.2.1, hobc.2.2⟩ (by rw [← hX.P, ← hX.w, ← hX.K]; exact Tn) wl wk (sl.mono st4.le) hst hdis
          (fun σ' H' s' I' hn => ?_) law (hs code) ds.length 0 s'' s'' G1 H4 (Nat.sub_zero _) (Nat.zero_le _) (Slp.inv ⟨z.os.trans sl6.os, z.bare, fun b o n e => z.keep b o n (k6 b o e), z.own⟩ Y0 fun b hb => (hst b (List.mem_append_right _ hb)).ok (fS b hb).1 (by simp))
          (Tn.keep _ _ _ ti4 fun b hb o e => z.keep b o (hdis b hb) (k6 b o (by rw [h5]; exact kp5 b o e))) nSs z.own (.refl st4.hk) (by rw [h0]; exact hC)
        · rw [h0] at gl
          subst hgc
          refine ⟨rfl, ?_⟩
          show Seg _ A.in1 _ _ _ s'' _ ((compStart (.GeneratorExp elt [⟨tg, iter, ifs, 0⟩] scope gpos) 0 (.ref it) .none ge).onRaise (leaving ge)) [] s''
          unfold compStart
          rw [Sem.onRaise_eq_wrap]
          show Seg _ A.in1 _ _ _ s'' _ ((ask >>= _).wrap _ _ _ _) [] s''
          refine seg_bind_wrap (wpAny_askSetting ?_)
          split
          · exact seg_again rfl gl
          · refine seg_bind_wrap (wpAny_rule (seg_bind_wrap (wpAny_standAt (seg_bind_wrap ?_))))
            exact Tn.self _ 0 _ _ _ (Tn.keep _ _ _ ti4 fun b hb o e => z.keep b o (hdis b hb) (k6 b o (by rw [h5]; exact kp5 b o e))) (seg_again rfl gl)
        · refine ⟨J3.call' (ch := fp) I'.os I'.base I'.hok I'.bare fun b hb => ⟨(fp4 b hb).1.2.2.2.1, (fp4 b hb).1.2.1, (fp4 b hb).1.2.2.2.2.1, (fp4 b hb).1.2.2.2.2.2⟩, fun b hb => J3.fpOk (Nat.le_trans (Nat.le_add_right _ 2) (S4 b hb)) (hn b hb)⟩
  cases hfc : codeAmong gpos ps.toList with
  | none =>
    refine wpAny_genexprCodeX hcode (cd.code hPs ht) (cd.tab hPs) hfc fun c' h' tk hx hge hlt hco' _ htab' _ => ?_
    obtain ⟨o1, vs, f1, tf, fl, tg, inF, tx, tt, op, _, _, _, _, _, _, _, _, _, htr, _⟩ := hco'
    exact cont _ h' tk _ _ rfl (fun b o hb e => hx b o hb e) htab'.2 htr
  | some cv =>
    refine wpAny_genexprCode_hit hcode (cd.code hPs ht) hfc ?_
    exact cont cv s2.heap s2.toks ps #[] (by simp) (fun _ _ _ e => e) hPs ht
end Sh
set_option Elab.async false
set_option linter.all false
set_option maxRecDepth 100000
set_option maxHeartbeats 1000000
set_option autoImplicit false
/-! ShH: who takes a generator expression's items: tuple, sorted, any, all, sum. -/
namespace Sh
open PySem PySem.Spec PyProof.Rows L2 GenW

section
variable {F : CF} {X : Cx} {pins : List (Addr × Obj)} {σ : L2.St} {G1 : Hp} {W1 : OW} {H1 : Hp} {outs : List D} {A : Around} {a : Addr} {g : Nat}
/-- the consumer's list -/
def CsL (K : PySem.W.Frag) (outs : List D) (S : Addr) (j : Nat) (G : Hp) (h : Heap) : Prop := ∃ (acc : Array Value) (c : Nat), h.get? S = some (lstObj acc c) ∧ ∃ vs, Vals vs acc.toList ∧ Rps K G vs (outs.take j)
theorem csL_law {K : PySem.W.Frag} {S : Addr} : CsLaw [S] (CsL K outs S) := ⟨fun j G G' h h' ⟨acc, c, e, vs, r1, r2⟩ le hs _ => ⟨acc, c, hs S (List.mem_singleton.mpr rfl) _ e, vs, r1, r2.mono le⟩⟩
theorem ext_loop {S : Addr} {res : Value} {R : Result → Shared → Prop} (hc : X.calm = true) (hh : A.handled = none) (hd : A.depth < recursionLimit) (hz : outs.length ≤ sizeLine) (hSa : S ≠ a)
    (hR : ∀ s' G2 H2 acc c vs, Inv X pins σ H2 s' → Step F.K F.T G1 W1 H1 G2 W1 H2 → FpOk X pins H2 S → s'.heap.get? S = some (lstObj acc c) → Vals vs acc.toList → Rps F.K G2 vs outs → R (.ok (.ret res)) s') :
    ∀ (k j : Nat) (s : Shared), outs.length - j = k → j ≤ outs.length → Asl F X pins σ G1 W1 H1 outs A.in1 [S] (CsL F.K outs S) a g j s → codeAny (model X.prog X.w) A (.builtin "list.extend.loop" ⟨[.ref S, .ref a, res], []⟩) R s := by
  intro k
  induction k with
  | zero =>
    intro j s hk hj h
    have e : j = outs.length := by omega
    subst e
    refine codeAny_builtin PySem.F.entry_extend_loop ?_
    rw [Around.under_plainId PySem.F.plain_extend_loop _]
    show wpAny _ A.in1 (pyNext (.ref a) >>= _) _ _ s
    refine wpAny_bind (h.done csL_law hc hh hd fun s1 G2 H2 I st hf hC => ?_)
    obtain ⟨acc, c, e, vs, r1, r2⟩ := hC
    rw [List.take_length] at r2
    exact wpAny_pure (hR s1 G2 H2 acc c vs I st (hf S (List.mem_singleton.mpr rfl)) e r1 r2)
  | succ k ih =>
    intro j s hk hj h
    have hlt : j < outs.length := by omega
    refine codeAny_builtin PySem.F.entry_extend_loop ?_
    rw [Around.under_plainId PySem.F.plain_extend_loop _]
    show wpAny _ A.in1 (pyNext (.ref a) >>= _) _ _ s
    refine wpAny_bind (h.item hc hh hd hlt fun v s1 x d G2 H2 hx rv rp I st hf hS hC nxt ig => ?_)
    obtain ⟨acc, c, e, vs, r1, r2⟩ := hC
    have hsz : acc.size = j := by
      have h1 := r1.length
      have h2 := r2.1
      rw [List.length_take] at h2
      simp only [Array.length_toList] at h1
      omega
    show wpAny _ A.in1 (updateSeq S (·.push v) >>= _) _ _ _
    refine wpAny_bind ?_
    have hnew := Heap.get?_update_self (Obj.mapSeq (·.push v)) e rfl
    refine wpAny_updateSeq e rfl (wpAny_pure ⟨plainId_quiet PySem.F.plain_extend_loop _, ih (j + 1) _ (by omega) hlt (nxt _ ⟨rfl, I.bare, fun b o hb q => ?_, fun b hb => ?_⟩ rfl ?_ ?_)⟩) (by rw [hsz]; omega) (by show (acc.push v).size ≤ sizeLine + 1; rw [Array.size_push, hsz]; omega)
    · exact (Heap.get?_update_other _ _ (fun z : S = b => hb (by rw [z]; exact List.mem_singleton.mpr rfl))).trans q
    · rw [List.mem_singleton] at hb
      subst hb
      exact ⟨_, hnew, fun v z => by cases z⟩
    · obtain ⟨o, nm, qn, q1, q2⟩ := ig
      exact ⟨o, nm, qn, (Heap.get?_update_other _ _ hSa).trans q1, q2⟩
    · refine ⟨acc.push v, _, hnew, vs ++ [x], ?_, ?_⟩
      · rw [Array.toList_push]
        exact r1.append (.cons rv .nil)
      · rw [List.take_add_one, hx]
        exact r2.snoc rp
end

section
variable {F : CF} {X : Cx} {pins : List (Addr × Obj)} {σ : L2.St} {G : Hp} {W W1 : OW} {H : Hp} {outs : List D} {A : Around} {E : Value → Shared → Prop}
/-- all items in a row -/
theorem collect_gen {u : Value} {s : Shared} {Q : List Value → Shared → Prop} (h : GMk F X pins σ G W H W1 outs u s) (hc : X.calm = true) (hA : A.frames = some X.stack) (hh : A.handled = none) (hd : A.depth + 3 * F.k + 5 < recursionLimit) (hu : A.units + 16 * F.k + 190 < cLine) (hk : 1 ≤ F.k) (hz : outs.length ≤ sizeLine)
    (hQ : ∀ us s' G2 H2 vs, Inv X pins σ H2 s' → Step F.K F.T G W H G2 W1 H2 → Vals vs us → Rps F.K G2 vs outs → Q us s') : wpAny (model X.prog X.w) A (collect u) Q E s := by
  obtain ⟨a, g, G1, H1, rfl, hlt, hg, hl, I1, st1, mk⟩ := h
  have hSa : s.heap.objs.size ≠ a := Nat.ne_of_gt hlt
  unfold collect
  refine wpAny_bind (wpAny_runValue (codeAny_builtin PySem.F.entry_proto_collect ?_))
  rw [Around.under_plainId PySem.F.plain_proto_collect _]
  show wpAny _ A.in1 (newList [] >>= fun l => again (.builtin "list.__iadd__" ⟨[l, .ref a], []⟩)) _ _ s
  refine wpAny_bind (wpAny_newObj_type ?_)
  refine wpAny_pure ⟨plainId_quiet PySem.F.plain_list_iadd _, codeAny_builtin PySem.F.entry_list_iadd ?_⟩
  rw [Around.under_plainId PySem.F.plain_list_iadd _]
  have k1 : ∀ b o, s.heap.get? b = some o → (s.heap.push { cls := .type "list", data := .seq ([] : List Value).toArray }).get? b = some o := fun b o e => Heap.get?_push_of_some _ e
  have hS₁ : (s.heap.push { cls := .type "list", data := .seq ([] : List Value).toArray }).get? s.heap.objs.size = some { cls := .type "list", data := .seq ([] : List Value).toArray } := Heap.get?_push_size _ rfl
  show wpAny _ A.in1 (Builtin.List.listExtendWith (.ref s.heap.objs.size) (.ref a) (.ref s.heap.objs.size)) _ _ _
  unfold Builtin.List.listExtendWith
  refine wpAny_bind (wpAny_typeOf (Heap.IsGen.typeIs (s := { s with heap := _ }) (hg.keeps k1)) ?_)
  have h1 : Builtin.List.listSameRef (.ref s.heap.objs.size) (.ref a) = false := by simp [Builtin.List.listSameRef, hSa]
  have h2 : (Value.type "generator" == Value.type "list") = false := by decide
  have h3 : (Value.type "generator" == Value.type "tuple") = false := by decide
  simp only [h1, h2, h3, Bool.or_false, Bool.false_eq_true, if_false]
  refine wpAny_bind (wpAny_pyIter_gen (s := { s with heap := _ }) (hg.keeps k1) ?_)
  refine wpAny_bind (wpAny_holding ?_)
  unfold Builtin.List.listLengthHint
  refine wpAny_bind (wpAny_specialOf (Heap.IsGen.typeIs (s := { s with heap := _ }) (hg.keeps k1)) PySem.F.gen_no_len ?_)
  show wpAny _ A.in1 (specialOf (Value.ref a) (Str.ofString "__length_hint__") >>= _) _ _ _
  refine wpAny_bind (wpAny_specialOf (Heap.IsGen.typeIs (s := { s with heap := _ }) (hg.keeps k1)) PySem.F.gen_no_hint ?_)
  refine wpAny_pure ?_
  show wpAny _ A.in1 (rule "list.extend.makes-room" >>= fun _ => Builtin.List.listTouch (.ref s.heap.objs.size) >>= fun _ =>
    again (.builtin "list.extend.loop" ⟨[.ref s.heap.objs.size, .ref a, .ref s.heap.objs.size], []⟩)) _ _ _
  refine wpAny_bind (wpAny_rule ?_)
  refine wpAny_bind ?_
  show wpAny _ A.in1 (updateSeq s.heap.objs.size (·.push .none) >>= fun _ => updateSeq s.heap.objs.size (·.pop)) _ _ _
  refine wpAny_bind (wpAny_updateSeq hS₁ rfl ?_)
  have hS₂ := Heap.get?_update_self (Obj.mapSeq (·.push Value.none)) hS₁ rfl
  refine wpAny_updateSeq hS₂ rfl ?_
  have hS₃ := Heap.get?_update_self (Obj.mapSeq (·.pop)) hS₂ rfl
  have kp : ∀ b o, s.heap.get? b = some o →
      (((s.heap.push { cls := .type "list", data := .seq ([] : List Value).toArray }).update s.heap.objs.size (Obj.mapSeq (·.push Value.none))).update s.heap.objs.size (Obj.mapSeq (·.pop))).get? b = some o :=
    fun b o e => (Heap.get?_update_other _ _ (Ne.symm (Nat.ne_of_lt (Heap.lt_size e)))).trans ((Heap.get?_update_other _ _ (Ne.symm (Nat.ne_of_lt (Heap.lt_size e)))).trans (k1 b o e))
  have dp : A.depth < recursionLimit := by omega
  refine wpAny_pure ⟨plainId_quiet PySem.F.plain_extend_loop _, ext_loop (res := .ref s.heap.objs.size) (S := s.heap.objs.size) (a := a) (g := g) hc hh dp hz hSa (fun s' G2 H2 acc c vs I st hf e r1 r2 => ?_) outs.length 0 _ (Nat.sub_zero _) (Nat.zero_le _)
    (mk A.in1 [s.heap.objs.size] (CsL F.K outs s.heap.objs.size) _ hh hA ⟨hh, ?_, ?_⟩ csL_law kp rfl rfl (fun b hb => ?_) fun G => ⟨_, _, hS₃, [], .nil, .nil⟩)⟩
  · show wpAny _ A (load s.heap.objs.size >>= _) _ _ s'
    refine wpAny_bind (wpAny_load e ?_)
    exact wpAny_pure (hQ _ _ G2 H2 vs I (st1.trans st) r1 r2)
  · show A.depth + 3 * (F.k - 1) + 5 < _
    omega
  · show A.units + 1 + 16 * (F.k - 1) + 200 < _
    omega
  · rw [List.mem_singleton] at hb
    subst hb
    exact ⟨Nat.le_refl _, _, hS₃, fun v z => by cases z⟩
end

/-- a generator expression, by what it hands out -/
def GenH (F : CF) (e : Expr) (Γ : Ga) (W : OW) (outs : List D) (W1 : OW) : Prop := 3 ≤ F.k ∧ ∀ (X : Cx) (pins : List (Addr × Obj)) (σ : L2.St) (G H : Hp) (s : Shared), Sat F X → Inv X pins σ H s → Slots F.K G Γ σ → Hk F.K F.T G W H → wpAny (model X.prog X.w) X.A (eval e X.env) (GMk F X pins σ G W H W1 outs) X.xe s
section
variable {F : CF} {Γ : Ga} {W W1 : OW} {outs : List D}
theorem gen_h {tg iter elt : Expr} {ifs : List Expr} {scope : Scope} {gpos : Pos} {own : List (Str × Nat)} {ds : List D} {Wk : OW → Prop} (acc : Nat → List D) (gt : GTab F) (hk2 : 3 ≤ F.k) (hN : F.N.Nodup) (ok : blkC F.N F.sc scope own = true) (gk : GScp scope) (hi : EI F tg iter Γ W ds Wk W1) (wk : Wk W1) (h0 : acc 0 = [])
    (hs : ∀ cd i d, ds[i]? = some d → Turn1 (F.gen scope cd) tg ifs elt (own.map (·.2)) (wipeG Γ (own.map (·.2))) d W1 (acc i) W1 (acc (i + 1))) (hf : ∀ env v, genFold iter env v = pure v := by intro _ _; rfl) : GenH F (.GeneratorExp elt [⟨tg, iter, ifs, 0⟩] scope gpos) Γ W (acc ds.length) W1 :=
  ⟨hk2, fun X pins σ G H s hX I sl hk => gen_mk hX gt hk2 hN (blkOk_by ok) gk hi wk h0 hs I sl hk hf⟩
end

/-! ### tuple -/
section
variable {F : CF} {X : Cx} {pins : List (Addr × Obj)} {σ : L2.St} {G : Hp} {W W1 : OW} {H : Hp} {outs : List D} {E : Value → Shared → Prop}
theorem code_tuple_new_g {A : Around} {u : Value} {s : Shared} {Q₁ : Value → Shared → Prop} (hty : s.TypeIs u "generator") (hcol : ∀ (E' : Value → Shared → Prop) (Q' : List Value → Shared → Prop), (∀ us s', us.length ≤ sizeLine → Q₁ (.ref s'.heap.objs.size) { s' with heap := s'.heap.push { cls := .type "tuple", data := .seq us.toArray } } → Q' us s') → wpAny (model X.prog X.w) A.in1 (collect u) Q' E' s) :
    codeAny (model X.prog X.w) A (.call (.builtin "tuple.__new__") ⟨[.type "tuple", u], []⟩) (wants Q₁ E) s := by
  refine codeAny_of_tree ?_
  show wpAny _ A.in1 (do checkBuiltinCall "tuple.__new__" ⟨[.type "tuple", u], []⟩; again (.builtin "tuple.__new__" ⟨[.type "tuple", u], []⟩)) _ _ s
  refine wpAny_bind (wpAny_of_eq (PySem.F.newCall_tuple_1 _) (wpAny_pure ⟨plainId_quiet PySem.F.plain_tuple_new _, codeAny_builtin PySem.F.entry_tuple_new ?_⟩))
  rw [Around.under_plainId PySem.F.plain_tuple_new _]
  have hsub := sub_tuple_self
  have hinit := init_tuple_lookup
  have hmh := madeHere_tuple
  wp_walk using wpAny_typeOf hty, hcol
  intro us s' hz hq
  show wpAny _ _ (Builtin.Tuple.tupleExact us.toArray >>= fun v => ret v) _ _ _
  unfold Builtin.Tuple.tupleExact
  refine wpAny_bind (wpAny_newObj_type ?_ (by show us.toArray.size ≤ sizeLine; rw [List.size_toArray]; exact hz))
  exact wpAny_pure hq

theorem call_tuple_g {A : Around} {u : Value} {s : Shared} {Q : VK} (h : GMk F X pins σ G W H W1 outs u s) (hc : X.calm = true) (hA : A.frames = some X.stack) (hh : A.handled = none) (hd : A.depth + 3 * F.k + 5 < recursionLimit) (hu : A.units + 3 + 16 * F.k + 190 < cLine) (hk : 1 ≤ F.k) (hz : outs.length ≤ sizeLine)
    (hQ : Kont F G W H (.ok (.tup outs)) W1 Q) : wpAny (model X.prog X.w) A (call (.type "tuple") [u]) (EP X pins σ Q) E s := by
  refine callType_codes (Q₁ := fun obj s₁ => s₁.TypeIs obj "tuple" ∧ EP X pins σ Q obj s₁) PySem.F.called_tuple (PySem.F.typeCall_tuple_1 _) PySem.F.entry_object_init
    (code_tuple_new_g (by obtain ⟨a, g, _, _, rfl, _, hg, _⟩ := h; exact hg.typeIs) fun E' Q' hq => collect_gen (A := A.in1.in1) h hc hA hh hd (by show A.units + 1 + 1 + 16 * F.k + 190 < _; omega) hk hz fun us s' G2 H2 vs I st r1 r2 => hq us s' (by rw [← r1.length, r2.1]; exact hz) ?_) fun obj s₁ h₁ => ?_
  · exact ⟨⟨_, Heap.get?_push_size _ rfl, rfl⟩, (Kont.newT (hQ.step st) st.hk r2).go I r1 (by rw [r2.1]; exact hz)⟩
  · exact ⟨h₁.1, PySem.F.args_object_init_2 obj _, object_init_meets PySem.F.called_tuple.init.lookup PySem.F.called_tuple.made (by decide) X.prog X.w A.in1 _ s₁ ⟨h₁.1, rfl, h₁.2⟩⟩
end
section
variable {F : CF} {Γ : Ga} {W W1 : OW} {outs : List D} {e : Expr} {p pos : Pos}
/-- tuple(x for ..) -/
theorem ev_tupG (hg : GlS F "tuple") (hm : F.mg "tuple" = none) (h : GenH F e Γ W outs W1) (hz : outs.length ≤ sizeLine) (he : ∀ env, starEach [e] env = (false, eval e env) :: starEach [] env := by intro _; rfl) : EV F (.Call (.Name "tuple" p) [e] [] pos) Γ W (.ok (.tup outs)) W1 :=
  fun G H σ Q sl hk k => ⟨fun σ H Q => Slots F.K G Γ σ ∧ Hk F.K F.T G W H ∧ Kont F G W H (.ok (.tup outs)) W1 Q, fun X hX => ⟨fun pins s σ H Q I ⟨sl, hk, k⟩ => by
    have hr := hX.room
    refine wpAny_Call_Name_kw (ld_blt I (hX.gl hg) (by rw [hX.mg]; exact hm) (u := .type "tuple") (by decide +kernel) ?_ (by decide) (by decide))
    refine PyProof.Rows.callWith_type1 ?_ (he _) rfl
    rw [he]
    show wpAny _ _ (spliced ((false, eval e X.env) :: backTo pos (starEach [] X.env))) _ _ s
    refine Calls.spliced_cons (thn (h.2 X pins σ G H s hX I sl hk) fun u s1 hG => ?_)
    refine Calls.spliced_nil ?_
    exact call_tuple_g hG hX.calm I.ok.frames hr.hd hr.dp (by have := hr.un; omega) (by have := h.1; omega) hz k⟩, sl, hk, k⟩
end

/-! ### sorted, of ints -/
section
variable {F : CF} {Γ : Ga} {W W1 : OW} {e : Expr} {p pos : Pos}
/-- sorted(x for ..), the items ints: a new list -/
theorem en_sortGI {ns ms : List Int} (hg : GlS F "sorted") (hm : F.mg "sorted" = none) (h : GenH F e Γ W (ns.map D.int) W1) (hz : ns.length ≤ sizeLine) (hs : ∀ ms', ms'.Perm ns → ms'.Pairwise (· ≤ ·) → ms' = ms) (he : ∀ env, starEach [e] env = (false, eval e env) :: starEach [] env := by intro _; rfl) : EN F (.Call (.Name "sorted" p) [e] [] pos) Γ W (ms.map D.int) W1 :=
  fun G H σ Q sl hk k => ⟨fun σ H Q => Slots F.K G Γ σ ∧ Hk F.K F.T G W H ∧ (∀ q G' H', H q = none → Step F.K F.T G W H G' ((q, .lst (ms.map D.int)) :: W1) H' → Q (.ref q) H'), fun X hX => ⟨fun pins s σ H Q I ⟨sl, hk, k⟩ => by
    have hr := hX.room
    refine wpAny_Call_Name_kw (ld_blt I (hX.gl hg) (by rw [hX.mg]; exact hm) (u := .builtin "sorted") (by decide +kernel) ?_ (by decide) (by decide))
    refine PyProof.Rows.callWith_builtin1 ?_ (he _) rfl
    rw [he]
    show wpAny _ _ (spliced ((false, eval e X.env) :: backTo pos (starEach [] X.env))) _ _ s
    refine Calls.spliced_cons (thn (h.2 X pins σ G H s hX I sl hk) fun u s1 hG => ?_)
    refine Calls.spliced_nil ?_
    refine Calls.call_function_entry kind_sorted plain_sorted entry_sorted (args_sorted1 _) ?_
    unfold Builtin.«sorted»
    refine wpAny_bind (m := checkCount "sorted" 1 1 _) (wpAny_pure ?_)
    refine wpAny_bind (collect_gen (A := X.A.in1) hG hX.calm I.ok.frames hr.hd hr.dp (by have := hr.un; show X.A.units + 1 + 16 * F.k + 190 < _; omega) (by have := h.1; omega) (by rw [List.length_map]; exact hz) fun us s2 G2 H2 vs I2 st r1 r2 => ?_)
    have evs := r2.ints
    subst evs
    have hl : us.length = ns.length := by rw [← r1.length, List.length_map]
    refine wpAny_bind (wpAny_newList ?_ (by rw [hl]; exact hz))
    have hoL : (s2.heap.push (seqObj "list" us.toArray 0)).get? s2.heap.objs.size = some (seqObj "list" us.toArray 0) := Heap.get?_push_size _ rfl
    refine wpAny_bind (wpAny_holding (wpAny_call_entry slot_list_sort ⟨_, hoL, rfl⟩ entry_list_sort (SrtO.list_sort_ord (s := { s2 with heap := s2.heap.push (seqObj "list" us.toArray 0) }) SrtO.swo_int hoL (by rw [hl]; exact hz) (fun h2 => SrtO.ints_sortable r1.ints h2) fun out o1 o2 => ⟨_, rfl, ?_⟩) (args_list_sort _)))
    refine wpAny_pure ⟨_, rfl, ?_⟩
    obtain ⟨k1, k2, k3⟩ := SrtO.ints_out r1.ints o1 o2
    have eo : out.map SrtO.iv = ms := hs _ k2 k3
    rw [eo] at k1 k2
    have hq : H2 s2.heap.objs.size = none := I2.hok.fresh (Nat.le_refl _)
    have hat := sortedHeap_at (vs := us) (out := out.toArray) hoL
    obtain ⟨ep, hat⟩ := hat
    refine ⟨.ref s2.heap.objs.size, upd H2 s2.heap.objs.size (.lst (ms.map V.int)), I2.laid (t' := s2.toks) (fun b o q => ?_) (Nat.le_refl _) ⟨?_, out, ep, vals_of_ints k1, hat⟩, rfl, ?_⟩
    · have lt := Heap.lt_size q
      rw [sortedHeap_old (Nat.ne_of_lt lt) (by rw [Heap.size_push]; exact Nat.lt_succ_of_lt lt)]
      exact Heap.get?_push_of_some _ q
    · rw [List.length_map, k2.length_eq]; exact hz
    · exact k _ _ _ (st.back hq) (st.trans (st.hk.allocO hq (w := .lst (ms.map D.int)) (o := .lst (ms.map V.int)) (Rps.of_ints ms)))⟩, sl, hk, k⟩
end

/-! ### any, all -/
section
variable {F : CF} {X : Cx} {pins : List (Addr × Obj)} {σ : L2.St} {G1 : Hp} {W1 : OW} {H1 : Hp} {bs : List Bool} {A : Around} {a : Addr} {g : Nat}
theorem csT_law : CsLaw [] fun _ _ _ => True := ⟨fun _ _ _ _ _ _ _ _ _ => trivial⟩
theorem any_loop {R : Result → Shared → Prop} (hc : X.calm = true) (hh : A.handled = none) (hd : A.depth < recursionLimit) (hR : ∀ s' G2 H2, Inv X pins σ H2 s' → Step F.K F.T G1 W1 H1 G2 W1 H2 → R (.ok (.ret (.bool (bs.any id)))) s') :
    ∀ (k j : Nat) (s : Shared), bs.length - j = k → j ≤ bs.length → (bs.take j).any id = false → Asl F X pins σ G1 W1 H1 (bs.map D.bl) A.in1 [] (fun _ _ _ => True) a g j s → codeAny (model X.prog X.w) A (.builtin "any.loop" ⟨[.ref a], []⟩) R s := by
  intro k
  induction k with
  | zero =>
    intro j s hk hj hb h
    have e : j = (bs.map D.bl).length := by rw [List.length_map]; omega
    rw [e] at h
    refine codeAny_builtin PySem.F.entry_any_loop ?_
    rw [Around.under_plainId PySem.F.plain_any_loop _]
    show wpAny _ A.in1 (pyNext (.ref a) >>= _) _ _ s
    refine wpAny_bind (h.done csT_law hc hh hd fun s1 G2 H2 I st _ _ => ?_)
    refine wpAny_bind (wpAny_rule (wpAny_pure ?_))
    have := hR s1 G2 H2 I st
    rw [List.take_of_length_le (by omega)] at hb
    rw [hb] at this
    exact this
  | succ k ih =>
    intro j s hk hj hb h
    have hlt : j < bs.length := by omega
    have hget : bs[j]? = some bs[j] := List.getElem?_eq_getElem hlt
    refine codeAny_builtin PySem.F.entry_any_loop ?_
    rw [Around.under_plainId PySem.F.plain_any_loop _]
    show wpAny _ A.in1 (pyNext (.ref a) >>= _) _ _ s
    refine wpAny_bind (h.item hc hh hd (by rw [List.length_map]; exact hlt) fun v s1 x d G2 H2 hx rv rp I st hf hS hC nxt ig => ?_)
    rw [List.getElem?_map, hget] at hx
    cases hx
    obtain rfl := rp.bl_inv
    obtain rfl := rv
    refine wpAny_bind (wpAny_holding (wpAny_truthy_bool ?_))
    refine wpAny_bind (wpAny_letGo ?_)
    cases hv : bs[j] with
    | false =>
      simp only [Bool.false_eq_true, if_false]
      refine wpAny_pure ⟨plainId_quiet PySem.F.plain_any_loop _, ih (j + 1) _ (by omega) hlt ?_ (nxt s1 (.refl I.bare fun b hb => by cases hb) rfl ig trivial)⟩
      rw [List.take_add_one, hget, hv, List.any_append, hb]
      rfl
    | true =>
      simp only [if_true]
      refine wpAny_bind (wpAny_rule (wpAny_pure ?_))
      have := hR s1 G2 H2 I st
      rw [show bs.any id = true from List.any_eq_true.mpr ⟨bs[j], List.getElem_mem hlt, hv⟩] at this
      exact this
theorem all_loop {R : Result → Shared → Prop} (hc : X.calm = true) (hh : A.handled = none) (hd : A.depth < recursionLimit) (hR : ∀ s' G2 H2, Inv X pins σ H2 s' → Step F.K F.T G1 W1 H1 G2 W1 H2 → R (.ok (.ret (.bool (bs.all id)))) s') :
    ∀ (k j : Nat) (s : Shared), bs.length - j = k → j ≤ bs.length → (bs.take j).all id = true → Asl F X pins σ G1 W1 H1 (bs.map D.bl) A.in1 [] (fun _ _ _ => True) a g j s → codeAny (model X.prog X.w) A (.builtin "all.loop" ⟨[.ref a], []⟩) R s := by
  intro k
  induction k with
  | zero =>
    intro j s hk hj hb h
    have e : j = (bs.map D.bl).length := by rw [List.length_map]; omega
    rw [e] at h
    refine codeAny_builtin PySem.F.entry_all_loop ?_
    rw [Around.under_plainId PySem.F.plain_all_loop _]
    show wpAny _ A.in1 (pyNext (.ref a) >>= _) _ _ s
    refine wpAny_bind (h.done csT_law hc hh hd fun s1 G2 H2 I st _ _ => ?_)
    refine wpAny_bind (wpAny_rule (wpAny_pure ?_))
    have := hR s1 G2 H2 I st
    rw [List.take_of_length_le (by omega)] at hb
    rw [hb] at this
    exact this
  | succ k ih =>
    intro j s hk hj hb h
    have hlt : j < bs.length := by omega
    have hget : bs[j]? = some bs[j] := List.getElem?_eq_getElem hlt
    refine codeAny_builtin PySem.F.entry_all_loop ?_
    rw [Around.under_plainId PySem.F.plain_all_loop _]
    show wpAny _ A.in1 (pyNext (.ref a) >>= _) _ _ s
    refine wpAny_bind (h.item hc hh hd (by rw [List.length_map]; exact hlt) fun v s1 x d G2 H2 hx rv rp I st hf hS hC nxt ig => ?_)
    rw [List.getElem?_map, hget] at hx
    cases hx
    obtain rfl := rp.bl_inv
    obtain rfl := rv
    refine wpAny_bind (wpAny_holding (wpAny_truthy_bool ?_))
    refine wpAny_bind (wpAny_letGo ?_)
    cases hv : bs[j] with
    | true =>
      simp only [if_true]
      refine wpAny_pure ⟨plainId_quiet PySem.F.plain_all_loop _, ih (j + 1) _ (by omega) hlt ?_ (nxt s1 (.refl I.bare fun b hb => by cases hb) rfl ig trivial)⟩
      rw [List.take_add_one, hget, hv, List.all_append, hb]
      rfl
    | false =>
      simp only [Bool.false_eq_true, if_false]
      refine wpAny_bind (wpAny_rule (wpAny_pure ?_))
      have := hR s1 G2 H2 I st
      rw [show bs.all id = false from Bool.eq_false_iff.mpr fun z => Bool.false_ne_true (hv.symm.trans (List.all_eq_true.mp z bs[j] (List.getElem_mem hlt)))] at this
      exact this
end
section
variable {F : CF} {Γ : Ga} {W W1 : OW} {e : Expr} {p pos : Pos} {bs : List Bool}
theorem ev_anyG (hg : GlS F "any") (hm : F.mg "any" = none) (h : GenH F e Γ W (bs.map D.bl) W1) (he : ∀ env, starEach [e] env = (false, eval e env) :: starEach [] env := by intro _; rfl) : EV F (.Call (.Name "any" p) [e] [] pos) Γ W (.ok (.bl (bs.any id))) W1 :=
  fun G H σ Q sl hk k => ⟨fun σ H Q => Slots F.K G Γ σ ∧ Hk F.K F.T G W H ∧ Kont F G W H (.ok (.bl (bs.any id))) W1 Q, fun X hX => ⟨fun pins s σ H Q I ⟨sl, hk, k⟩ => by
    have hr := hX.room
    refine wpAny_Call_Name_kw (ld_blt I (hX.gl hg) (by rw [hX.mg]; exact hm) boot_any ?_)
    refine PyProof.Rows.callWith_builtin1 ?_ (he _) rfl
    rw [he]
    show wpAny _ _ (spliced ((false, eval e X.env) :: backTo pos (starEach [] X.env))) _ _ s
    refine Calls.spliced_cons (thn (h.2 X pins σ G H s hX I sl hk) fun u s1 ⟨a, g, G1, H1, eu, hlt, hgn, hl, I1, st1, mk⟩ => ?_)
    subst eu
    refine Calls.spliced_nil ?_
    refine call_function_tree PySem.F.kind_any PySem.F.plain_any PySem.F.entry_any (PySem.F.args_any1 _) ?_
    unfold Builtin.«any»
    refine wpAny_bind (m := oneArg "any" _) (wpAny_pure ?_)
    refine wpAny_bind (wpAny_pyIter_gen hgn ?_)
    have h3 := h.1
    refine wpAny_pure ⟨plainId_quiet PySem.F.plain_any_loop _, any_loop (bs := bs) (F := F) (pins := pins) (σ := σ) (a := a) (g := g) hX.calm hr.hd (by have := hr.dp; show X.A.depth < _; omega) (fun s' G2 H2 I2 st2 => ?_) bs.length 0 _ (Nat.sub_zero _) (Nat.zero_le _) rfl (mk X.A.in1 [] _ s1 hr.hd I.ok.frames ⟨hr.hd, ?_, ?_⟩ csT_law (fun _ _ e => e) rfl rfl (fun b hb => by cases hb) fun _ => trivial)⟩
    · exact ⟨.bl _, H2, I2, rfl, k _ _ _ (st1.trans st2) (.bl _)⟩
    · have := hr.dp
      show X.A.depth + 3 * (F.k - 1) + 5 < _
      omega
    · have := hr.un
      show X.A.units + 1 + 16 * (F.k - 1) + 200 < _
      omega⟩, sl, hk, k⟩
theorem ev_allG (hg : GlS F "all") (hm : F.mg "all" = none) (h : GenH F e Γ W (bs.map D.bl) W1) (he : ∀ env, starEach [e] env = (false, eval e env) :: starEach [] env := by intro _; rfl) : EV F (.Call (.Name "all" p) [e] [] pos) Γ W (.ok (.bl (bs.all id))) W1 :=
  fun G H σ Q sl hk k => ⟨fun σ H Q => Slots F.K G Γ σ ∧ Hk F.K F.T G W H ∧ Kont F G W H (.ok (.bl (bs.all id))) W1 Q, fun X hX => ⟨fun pins s σ H Q I ⟨sl, hk, k⟩ => by
    have hr := hX.room
    refine wpAny_Call_Name_kw (ld_blt I (hX.gl hg) (by rw [hX.mg]; exact hm) (u := .builtin "all") (by decide +kernel) ?_)
    refine PyProof.Rows.callWith_builtin1 ?_ (he _) rfl
    rw [he]
    show wpAny _ _ (spliced ((false, eval e X.env) :: backTo pos (starEach [] X.env))) _ _ s
    refine Calls.spliced_cons (thn (h.2 X pins σ G H s hX I sl hk) fun u s1 ⟨a, g, G1, H1, eu, hlt, hgn, hl, I1, st1, mk⟩ => ?_)
    subst eu
    refine Calls.spliced_nil ?_
    refine call_function_tree PySem.F.kind_all PySem.F.plain_all PySem.F.entry_all (PySem.F.args_all1 _) ?_
    unfold Builtin.«all»
    refine wpAny_bind (m := oneArg "all" _) (wpAny_pure ?_)
    refine wpAny_bind (wpAny_pyIter_gen hgn ?_)
    have h3 := h.1
    refine wpAny_pure ⟨plainId_quiet PySem.F.plain_all_loop _, all_loop (bs := bs) (F := F) (pins := pins) (σ := σ) (a := a) (g := g) hX.calm hr.hd (by have := hr.dp; show X.A.depth < _; omega) (fun s' G2 H2 I2 st2 => ?_) bs.length 0 _ (Nat.sub_zero _) (Nat.zero_le _) rfl (mk X.A.in1 [] _ s1 hr.hd I.ok.frames ⟨hr.hd, ?_, ?_⟩ csT_law (fun _ _ e => e) rfl rfl (fun b hb => by cases hb) fun _ => trivial)⟩
    · exact ⟨.bl _, H2, I2, rfl, k _ _ _ (st1.trans st2) (.bl _)⟩
    · have := hr.dp
      show X.A.depth + 3 * (F.k - 1) + 5 < _
      omega
    · have := hr.un
      show X.A.units + 1 + 16 * (F.k - 1) + 200 < _
      omega⟩, sl, hk, k⟩
end
end Sh
set_option Elab.async false
set_option linter.all false
set_option maxRecDepth 100000
set_option maxHeartbeats 1000000
set_option autoImplicit false
/-! ShI: enumerate, zip, keys of a dict; dict comprehensions. -/
namespace Sh
open PySem PySem.Spec PyProof.Rows L2

/-- a new object that nobody is told of -/
theorem Hk.junk {K : PySem.W.Frag} {T : Tb} {G H : Hp} {W : OW} (h : Hk K T G W H) {p : Addr} {o : HO} (hp : H p = none) : Step K T G W H G W (upd H p o) := by
  have ne : ∀ a u, H a = some u → a ≠ p := fun a u e => ne_of_none e hp
  refine ⟨.refl G, fun _ _ q => .inl q, fun _ q => .inl q, fun a u q _ _ => by rw [upd_ne (ne a u q)]; exact q, fun a u q => ⟨u, by rw [upd_ne (ne a u q)]; exact q⟩, fun a u q => by rw [upd_ne (ne a u (h.sub a u q))]; exact h.sub a u q, h.ntb, h.nod, fun q hq => ?_, h.tab.upd ⟨fun ps e => ?_, fun c x e => ?_⟩⟩
  · obtain ⟨h1, u, h2, h3⟩ := h.own q hq
    exact ⟨h1, u, by rw [upd_ne (ne _ u h2)]; exact h2, h3⟩
  · rw [hp] at e; cases e
  · rw [hp] at e; cases e
def enumD (ds : List D) : List D := ds.mapIdx fun i d => .pr [.int (i : Nat), d]
theorem enumD_get {ds : List D} {i : Nat} {d : D} (h : (enumD ds)[i]? = some d) : ∃ x, ds[i]? = some x ∧ d = .pr [.int (i : Nat), x] := by
  unfold enumD at h
  rw [List.getElem?_mapIdx] at h
  cases e : ds[i]? with
  | none => rw [e] at h; cases h
  | some x =>
    rw [e] at h
    cases h
    exact ⟨x, rfl, rfl⟩
theorem enumD_len (ds : List D) : (enumD ds).length = ds.length := by
  unfold enumD
  rw [List.length_mapIdx]
def zipD (xs ys : List D) : List D := List.zipWith (fun x y => .pr [x, y]) xs ys
theorem zipD_get {xs ys : List D} {i : Nat} {d : D} (h : (zipD xs ys)[i]? = some d) : ∃ x y, xs[i]? = some x ∧ ys[i]? = some y ∧ d = .pr [x, y] := by
  unfold zipD at h
  rw [List.getElem?_zipWith] at h
  cases e : xs[i]? with
  | none => rw [e] at h; cases h
  | some x =>
    cases e2 : ys[i]? with
    | none => rw [e, e2] at h; cases h
    | some y =>
      rw [e, e2] at h
      cases h
      exact ⟨x, y, rfl, rfl, rfl⟩
theorem zipD_len (xs ys : List D) : (zipD xs ys).length = min xs.length ys.length := by
  unfold zipD
  rw [List.length_zipWith]
theorem Rp.key {K : PySem.W.Frag} {G : Hp} : ∀ k : Key, Rp K G (kV k) (kD k)
  | .inl i => .int i
  | .inr x => .str x
theorem Rpk.len {κ : Type} {K : PySem.W.Frag} {G : Hp} {kvs : List (κ × V)} {ds : List (κ × D)} (h : Rpk K G kvs ds) : kvs.length = ds.length := by
  have := congrArg List.length h.1
  simpa using this
section
variable {F : CF} {Γ : Ga} {W W1 W2 W3 : OW} {pos p tpos : Pos} {a b c e : Expr} {d d1 d2 d3 : D} {o : Out} {elts : List Expr} {kk : Nat}
theorem ei_enumL {ds : List D} (hg : GlS F "enumerate") (hm : F.mg "enumerate" = none) (h : EV F e Γ W (.ok d) W1) (hd : AsL W1 d ds) (hs : ∀ env, starEach [e] env = [(false, eval e env)] := by intro _; rfl) :
    EI F (.Tuple elts kk tpos) (.Call (.Name "enumerate" p) [e] [] pos) Γ W (enumD ds) (fun W' => AsL W' d ds) W1 :=
  fun G H σ R sl hk k => ⟨iEnum F.K (cA F [e]), fun X hX => hX.K ▸ pi_enum (hX.gl hg) (by rw [hX.mg]; exact hm) (cA_pa hX) (hs _), (ea_cons h ea_nil (fun env => by rw [hs]; rfl)) G H σ _ sl hk fun vs G1 H1 s1 rs => by
    obtain ⟨v, rfl, r1⟩ := rs.one
    obtain ⟨a, vs, rfl, e1, q1⟩ := hd.at s1.hk r1
    refine ⟨a, vs, rfl, SqL.of e1, k _ G1 H1 s1 fun G' W' H' le hk' wk i => ?_⟩
    obtain ⟨a', vs', ea, e2, q2⟩ := wk.at hk' (r1.mono le)
    cases ea
    refine ⟨fun d hd => ?_, fun hi => ⟨vs', SqL.of e2, by rw [q2.1, ← enumD_len]; exact hi⟩⟩
    obtain ⟨x, hx, rfl⟩ := enumD_get hd
    obtain ⟨v, ev, rv⟩ := q2.get hx
    refine ⟨⟨vs', v, SqL.of e2, ev⟩, fun y H'' q => ?_⟩
    obtain ⟨T, x', rfl, nT, rfl, f⟩ := q
    have := f vs' (SqL.of e2)
    rw [ev] at this
    cases this
    exact ⟨hk'.junk nT, .inr ⟨T, _, _, rfl, upd_same, rfl, (Rps.nil.cons rv).cons (.int _)⟩⟩⟩
theorem ei_zipL {xs ys : List D} (hg : GlS F "zip") (hm : F.mg "zip" = none) (h : EA F [a, b] Γ W (.ok [d1, d2]) W1) (hd1 : AsL W1 d1 xs) (hd2 : AsL W1 d2 ys) (hs : ∀ env, starEach [a, b] env = (false, eval a env) :: starEach [b] env := by intro _; rfl) (hpl : ∀ env, (backTo pos (starEach [b] env)).any (·.1) = false := by intro _; rfl) :
    EI F (.Tuple elts kk tpos) (.Call (.Name "zip" p) [a, b] [] pos) Γ W (zipD xs ys) (fun W' => AsL W' d1 xs ∧ AsL W' d2 ys) W1 :=
  fun G H σ R sl hk k => ⟨RZ.iZipA F.K (cA F [a, b]), fun X hX => hX.K ▸ RZ.pi_zipA (hX.gl hg) (by rw [hX.mg]; exact hm) (cA_pa hX) (hs _) (hpl _), h G H σ _ sl hk fun vs G1 H1 s1 rs => by
    obtain ⟨v, w, rfl, r1, r2⟩ := rs.two
    obtain ⟨a, vs, rfl, e1, q1⟩ := hd1.at s1.hk r1
    obtain ⟨b, ws, rfl, e2, q2⟩ := hd2.at s1.hk r2
    refine ⟨a, b, vs, ws, rfl, .inl ⟨SqL.of e1, SqL.of e2, k _ G1 H1 s1 fun G' W' H' le hk' wk i => ?_⟩⟩
    obtain ⟨a', vs', ea, e1, q1⟩ := wk.1.at hk' (r1.mono le)
    cases ea
    obtain ⟨b', ws', eb, e2, q2⟩ := wk.2.at hk' (r2.mono le)
    cases eb
    refine ⟨fun d hd => ?_, fun hi => ⟨vs', ws', SqL.of e1, SqL.of e2, ?_⟩⟩
    · obtain ⟨x, y, hx, hy, rfl⟩ := zipD_get hd
      obtain ⟨v, ev, rv⟩ := q1.get hx
      obtain ⟨w, ew, rw'⟩ := q2.get hy
      refine ⟨⟨vs', ws', v, w, SqL.of e1, SqL.of e2, ev, ew⟩, fun z H'' q => ?_⟩
      obtain ⟨T, x', y', rfl, nT, rfl, f, g⟩ := q
      have t1 := f vs' (SqL.of e1)
      have t2 := g ws' (SqL.of e2)
      rw [ev] at t1
      rw [ew] at t2
      cases t1
      cases t2
      exact ⟨hk'.junk nT, .inr ⟨T, _, _, rfl, upd_same, rfl, (Rps.nil.cons rw').cons rv⟩⟩
    · rw [zipD_len] at hi
      rw [q1.1, q2.1]
      omega⟩
theorem ei_zipT {xs ys : List D} (hg : GlS F "zip") (hm : F.mg "zip" = none) (h : EA F [a, b] Γ W (.ok [.tup xs, .tup ys]) W1) (hs : ∀ env, starEach [a, b] env = (false, eval a env) :: starEach [b] env := by intro _; rfl) (hpl : ∀ env, (backTo pos (starEach [b] env)).any (·.1) = false := by intro _; rfl) :
    EI F (.Tuple elts kk tpos) (.Call (.Name "zip" p) [a, b] [] pos) Γ W (zipD xs ys) (fun W' => True) W1 :=
  fun G H σ R sl hk k => ⟨RZ.iZipA F.K (cA F [a, b]), fun X hX => hX.K ▸ RZ.pi_zipA (hX.gl hg) (by rw [hX.mg]; exact hm) (cA_pa hX) (hs _) (hpl _), h G H σ _ sl hk fun vs G1 H1 s1 rs => by
    obtain ⟨v, w, rfl, r1, r2⟩ := rs.two
    obtain ⟨a, vs, rfl, e1, q1⟩ := r1.tup_inv
    obtain ⟨b, ws, rfl, e2, q2⟩ := r2.tup_inv
    refine ⟨a, b, vs, ws, rfl, .inr ⟨sqt_up s1.hk e1, sqt_up s1.hk e2, k _ G1 H1 s1 fun G' W' H' le hk' wk i => ?_⟩⟩
    have f1 : SqT F.K H' a vs := Le.st (le.trans hk'.sub) e1.sq
    have f2 : SqT F.K H' b ws := Le.st (le.trans hk'.sub) e2.sq
    refine ⟨fun d hd => ?_, fun hi => ⟨vs, ws, f1, f2, ?_⟩⟩
    · obtain ⟨x, y, hx, hy, rfl⟩ := zipD_get hd
      obtain ⟨v, ev, rv⟩ := q1.get hx
      obtain ⟨w, ew, rw'⟩ := q2.get hy
      refine ⟨⟨vs, ws, v, w, f1, f2, ev, ew⟩, fun z H'' q => ?_⟩
      obtain ⟨T, x', y', rfl, nT, rfl, f, g⟩ := q
      have t1 := f vs f1
      have t2 := g ws f2
      rw [ev] at t1
      rw [ew] at t2
      cases t1
      cases t2
      exact ⟨hk'.junk nT, .inr ⟨T, _, _, rfl, upd_same, rfl, (Rps.nil.cons (rw'.mono le)).cons (rv.mono le)⟩⟩
    · rw [zipD_len] at hi
      rw [q1.1, q2.1]
      omega⟩

/-! ### new dicts -/
def END (F : CF) (e : Expr) (Γ : Ga) (W : OW) (ds : List (Key × D)) (W' : OW) : Prop := ∀ (G H : Hp) (σ : L2.St) (Q : VK), Slots F.K G Γ σ → Hk F.K F.T G W H →
  (∀ p G' H', H p = none → Step F.K F.T G W H G' ((p, .dK ds) :: W') H' → Q (.ref p) H') → cE F e σ H Q
theorem evr_newD {P : D → OW → Prop} {ds : List (Key × D)} (h : END F e Γ W ds W1) (hp : ∀ q, P (.ptr q) ((q, .dK ds) :: W1)) : EVR F e Γ W P := fun G H σ Q sl hk k => h G H σ Q sl hk fun q G' H' _ s => k _ _ _ _ _ (hp q) s (.ptr q)
/-- len of a new dict -/
theorem ev_lenN {ds : List (Key × D)} (hg : GlS F "len") (hm : F.mg "len" = none) (ha : END F a Γ W ds W1) (he : ∀ env, starEach [a] env = (false, eval a env) :: starEach [] env := by intro _; rfl) : EV F (.Call (.Name "len" p) [a] [] pos) Γ W (.ok (.int ds.length)) W1 :=
  fun G H σ Q sl hk k => ⟨tCB (fun xs H Q => ∃ a kvs, xs = [V.ref a] ∧ H a = some (.dK kvs) ∧ Q (.int kvs.length) H) (tCons (cE F a) tNil), fun X hX => pe_callB call_lenD (hX.gl hg) (by rw [hX.mg]; exact hm) (by decide +kernel) (pa_cons (cE_pe hX) pa_nil (he _)) (he := he _), ha G H σ _ sl hk fun q G1 H1 hq s1 => by
    obtain ⟨_, ob, eo, ro⟩ := s1.hk.own _ List.mem_cons_self
    obtain ⟨kvs, rfl, ro⟩ := ro.dK_inv
    refine ⟨q, kvs, rfl, eo, ?_⟩
    rw [Rpk.len ro]
    exact k _ G1 H1 (s1.drop (List.sublist_cons_self _ _)) (.int _)⟩
/-- the value's object is known from now on -/
def tLk (t : TE) : TE := fun σ H Q => t σ H fun v H' => ∃ d u, v = .ref d ∧ H' d = some u ∧ Mut (some u) ∧ ∀ od, Q v (upd H' d (.frz od u))
theorem pe_lk {X : Cx} {t : TE} (h : PE X e t) : PE X e (tLk t) := by
  refine ⟨fun pins s σ H Q I hw => thn (h.run pins s σ H _ I hw) fun v s1 ⟨x, H1, I1, r, d, u, e1, e2, mu, q⟩ => ?_⟩
  obtain ⟨od, I2⟩ := I1.lock e2 mu
  exact ⟨x, _, I2, r, q od⟩
/-- the keys of a new dict -/
theorem ei_keysN {tg : Expr} {ds : List (Key × D)} (h : END F e Γ W ds W1) : EI F tg e Γ W (ds.map fun kv => kD kv.1) (fun _ => True) W1 :=
  fun G H σ R sl hk k => ⟨iKeys (tLk (cE F e)), fun X hX => pi_keys (pe_lk (cE_pe hX)), h G H σ _ sl hk fun q G1 H1 hq s1 => by
    obtain ⟨gq, ob, eo, ro⟩ := s1.hk.own _ List.mem_cons_self
    obtain ⟨kvs, rfl, ro⟩ := ro.dK_inv
    refine ⟨q, _, rfl, eo, trivial, fun od => ⟨q, od, rfl, .inl ⟨kvs, upd_same, ?_⟩⟩⟩
    have st1 := s1.hk.write (i := 0) (a := q) (w := .dK ds) (w' := .raw (.frz od (.dK kvs))) (o' := .frz od (.dK kvs)) rfl ⟨rfl, fun ps z => by cases z⟩ (fun c x z => by
      have eo' : H1 q = some (.dK kvs) := eo
      rw [eo'] at z; cases z)
    obtain ⟨o2, e2, r2, st2⟩ := st1.hk.freeze (i := 0) (a := q) rfl
    have e3 : o2 = .frz od (.dK kvs) := by
      rw [upd_same] at e2
      exact (Option.some.inj e2).symm
    subst e3
    refine k _ _ _ ((s1.trans st1).trans st2) fun G' W' H' le hk' wk i => ?_
    have hd' : H' q = some (.frz od (.dK kvs)) := hk'.sub q _ (le q _ upd_same)
    refine ⟨fun d hd => ?_, fun hi => ⟨hd', ?_⟩⟩
    · rw [List.getElem?_map] at hd
      cases hx : ds[i]? with
      | none => rw [hx] at hd; cases hd
      | some kv =>
        rw [hx] at hd
        cases hd
        have hl := Rpk.len ro
        have hlt : i < kvs.length := by
          rw [hl]
          exact (List.getElem?_eq_some_iff.mp hx).1
        have hk2 : (kvs.map (·.1))[i]? = some kv.1 := by
          rw [ro.1, List.getElem?_map, hx]
          rfl
        refine ⟨⟨hd', hlt⟩, fun x H'' y => ?_⟩
        obtain ⟨rfl, k0, v0, e4, rfl⟩ := y
        rw [List.getElem?_map, e4] at hk2
        cases hk2
        refine ⟨.refl hk', .inl ?_⟩
        exact Rp.key _
    · rw [List.length_map, ← Rpk.len ro] at hi
      exact hi⟩

/-! ### dict comprehensions -/
def putD {κ : Type} [DecidableEq κ] (kvs : List (κ × D)) (k : κ) (v : D) : List (κ × D) :=
  if (kvs.any fun kv => decide (kv.1 = k)) = true then kvs.map (fun kv => if kv.1 = k then (kv.1, v) else kv) else kvs ++ [(k, v)]
theorem Rpk.any {κ : Type} [DecidableEq κ] {K : PySem.W.Frag} {G : Hp} {kvs : List (κ × V)} {ds : List (κ × D)} (h : Rpk K G kvs ds) (k : κ) : (kvs.any fun kv => decide (kv.1 = k)) = ds.any fun kv => decide (kv.1 = k) := by
  have e1 : (kvs.any fun kv => decide (kv.1 = k)) = (kvs.map (·.1)).any fun x => decide (x = k) := by
    rw [List.any_map]
    rfl
  have e2 : (ds.any fun kv => decide (kv.1 = k)) = (ds.map (·.1)).any fun x => decide (x = k) := by
    rw [List.any_map]
    rfl
  rw [e1, e2, h.1]
theorem Rpk.cons {κ : Type} {K : PySem.W.Frag} {G : Hp} {kvs : List (κ × V)} {ds : List (κ × D)} {k : κ} {v : V} {d : D} (h : Rpk K G kvs ds) (r : Rp K G v d) : Rpk K G ((k, v) :: kvs) ((k, d) :: ds) :=
  ⟨by rw [List.map_cons, List.map_cons, h.1], by rw [List.map_cons, List.map_cons]; exact h.2.cons r⟩
theorem Rpk.snoc {κ : Type} {K : PySem.W.Frag} {G : Hp} {kvs : List (κ × V)} {ds : List (κ × D)} {k : κ} {v : V} {d : D} (h : Rpk K G kvs ds) (r : Rp K G v d) : Rpk K G (kvs ++ [(k, v)]) (ds ++ [(k, d)]) :=
  ⟨by rw [List.map_append, List.map_append, h.1]; rfl, by rw [List.map_append, List.map_append]; exact h.2.snoc r⟩
theorem Rpk.subst {κ : Type} [DecidableEq κ] {K : PySem.W.Frag} {G : Hp} {k : κ} {v : V} {d : D} (r : Rp K G v d) : ∀ {ds : List (κ × D)} {kvs : List (κ × V)}, Rpk K G kvs ds → Rpk K G (kvs.map fun kv => if kv.1 = k then (kv.1, v) else kv) (ds.map fun kv => if kv.1 = k then (kv.1, d) else kv)
  | [], kvs, h => by
    rw [h.inv0]
    exact .nil
  | (j, x) :: ds, kvs, h => by
    obtain ⟨u, vs, rfl, r1, t⟩ := h.inv
    rw [List.map_cons, List.map_cons]
    by_cases e : j = k
    · rw [if_pos e, if_pos e]
      exact (Rpk.subst r t).cons r
    · rw [if_neg e, if_neg e]
      exact (Rpk.subst r t).cons r1
theorem Rpk.put {κ : Type} [DecidableEq κ] {K : PySem.W.Frag} {G : Hp} {kvs : List (κ × V)} {ds : List (κ × D)} {k : κ} {v : V} {d : D} (h : Rpk K G kvs ds) (r : Rp K G v d) : Rpk K G (putK kvs k v) (putD ds k d) := by
  unfold putK putD
  rw [h.any]
  split
  · exact h.subst r
  · exact h.snoc r
theorem putD_len {κ : Type} [DecidableEq κ] (ds : List (κ × D)) (k : κ) (d : D) : (putD ds k d).length ≤ ds.length + 1 := by
  unfold putD
  split
  · rw [List.length_map]; omega
  · rw [List.length_append]; exact Nat.le_refl _
/-- one turn -/
def Turn1K (F : CF) (tg : Expr) (ifs : List Expr) (kx vx : Expr) (vs : List Nat) (Γ0 : Ga) (d : D) (W : OW) (acc acc' : List (Key × D)) : Prop :=
  ∃ Γ1 ts, EG F (SatG F) tg Γ0 d Γ1 ts ∧ (∀ t ∈ ts, t ∈ vs) ∧ ∃ r, ETs F ifs Γ1 W r W ∧ (r = true → ∃ k y, EV F kx Γ1 W (.ok (kD k)) W ∧ EV F vx Γ1 W (.ok y) W ∧ acc' = putD acc k y) ∧ (r = false → acc' = acc)
theorem en_dc {tg iter kx vx : Expr} {ifs : List Expr} {scope : Scope} {own : List (Str × Nat)} {ds : List D} {Wk : OW → Prop} (hN : F.N.Nodup) (ok : blkC F.N F.sc scope own = true) (hi : EI F tg iter Γ W ds Wk W1) (wk : Wk W1) (acc : Nat → List (Key × D)) (h0 : acc 0 = [])
    (hs : ∀ i d, ds[i]? = some d → Turn1K (F.blk scope) tg ifs kx vx (own.map (·.2)) (wipeG Γ (own.map (·.2))) d W1 (acc i) (acc (i + 1))) (hz : ds.length < sizeLine) (hf : ∀ env x, foldedSetIterable iter env x = pure x := by intro _ _; rfl) :
    END F (.DictComp kx vx [⟨tg, iter, ifs, 0⟩] scope pos) Γ W (acc ds.length) W1 := by
  have hacc : ∀ i, i ≤ ds.length → (acc i).length ≤ i := by
    intro i
    induction i with
    | zero => intro _; rw [h0]; exact Nat.le_refl _
    | succ i ih =>
      intro hi'
      obtain ⟨Γ1, ts, _, _, r, _, h1, h2⟩ := hs i ds[i] (List.getElem?_eq_getElem hi')
      have := ih (by omega)
      cases r with
      | true =>
        obtain ⟨k, y, _, _, e⟩ := h1 rfl
        rw [e]
        have := putD_len (acc i) k y
        omega
      | false =>
        rw [h2 rfl]
        omega
  refine fun G H σ Q sl hk k => ⟨tDc (cI F tg iter) (cG (SatG (F.blk scope)) tg) (cTs (F.blk scope) ifs) (cE (F.blk scope) kx) (cE (F.blk scope) vx) (own.map (·.2)), fun X hX => pe_dc hX.calm (by rw [hX.N]; exact hN) (cI_pi hX) (blkOk_by (by rw [hX.N, hX.sc]; exact ok))
      (fun s H C cl fp => cG_pg ⟨hX.blk scope s H C cl fp, by show X.N.Nodup; rw [hX.N]; exact hN⟩) (fun s H C cl fp => cTs_pts (hX.blk scope s H C cl fp)) (fun s H C cl fp => cE_pe (hX.blk scope s H C cl fp)) (fun s H C cl fp => cE_pe (hX.blk scope s H C cl fp)) (hf _), ?_⟩
  generalize hvs : own.map (·.2) = vs at *
  refine hi G H σ _ sl hk fun J G1 H1 s1 wl D hD => ?_
  have s2 := s1.hk.allocO (w := .dK []) (o := .dK []) hD Rpk.nil
  have hD0 := s1.back hD
  refine ⟨fun i m H' => m = ds.length - i ∧ i ≤ ds.length ∧ ∃ G', Step F.K F.T G W H G' (W1 ++ [(D, .dK (acc i))]) H' ∧ Le G1 G', ⟨ds.length, by simp, Nat.zero_le _, G1, ?_, Le.refl _⟩, ?_⟩
  · rw [h0]
    exact (s1.trans s2).perm (List.Perm.refl _) (List.perm_append_comm (l₁ := [(D, AO.dK [])]) (l₂ := W1))
  · rintro i m H' ⟨rfl, hil, G', st, le⟩
    have hkW : Hk F.K F.T G' W1 H' := st.hk.less (List.sublist_append_left _ _)
    obtain ⟨w1, w2⟩ := wl G' W1 H' le hkW wk i
    by_cases hlt : i < ds.length
    · obtain ⟨go, w3⟩ := w1 ds[i] (List.getElem?_eq_getElem hlt)
      refine .inr ⟨go, fun H2 => ∃ G2, Step F.K F.T G W H G2 (W1 ++ [(D, .dK (acc (i + 1)))]) H2 ∧ Le G1 G2, fun H2 q => ⟨ds.length - (i + 1), by omega, rfl, hlt, q⟩, fun x H2 y => ?_⟩
      obtain ⟨s3, y3⟩ := w3 x H2 y
      obtain ⟨Γ1, ts, hg, hts, r, ht, h1, h2⟩ := hs i ds[i] (List.getElem?_eq_getElem hlt)
      have st3 := st.trans (s3.more st.hk)
      refine hg G' H2 x (L2.wipe σ vs) _ ((sl.mono (s1.le.trans le)).wipe vs) s3.hk.sub y3 fun σ2 sl2 bt => ⟨wipe_but bt hts, ?_⟩
      refine ht G' H2 σ2 _ sl2 s3.hk fun G3 H3 s4 => ?_
      have st4 := st3.trans (s4.more st3.hk)
      cases r with
      | true =>
        rw [if_pos rfl]
        obtain ⟨q, y, hq, hy, ea⟩ := h1 rfl
        refine hq G3 H3 σ2 _ (sl2.mono s4.le) s4.hk fun qv G4 H4 s5 rq => ?_
        have st5 := st4.trans (s5.more st4.hk)
        refine hy G4 H4 σ2 _ ((sl2.mono s4.le).mono s5.le) s5.hk fun v G5 H5 s6 rv => ?_
        have st6 := st5.trans (s6.more st5.hk)
        have hix : (W1 ++ [(D, AO.dK (acc i))])[W1.length]? = some (D, .dK (acc i)) := by
          rw [List.getElem?_append_right (Nat.le_refl _), Nat.sub_self]
          rfl
        obtain ⟨_, ob, eo, ro⟩ := st6.hk.own _ (List.mem_of_getElem? hix)
        obtain ⟨kvs, rfl, ro⟩ := ro.dK_inv
        have hlen := hacc i hil
        refine ⟨kvs, q, rq.key_inv, eo, by rw [Rpk.len ro]; omega, G5, ?_, ((le.trans s4.le).trans s5.le).trans s6.le⟩
        have s7 := st6.hk.write (w' := .dK (acc (i + 1))) (o' := .dK (putK kvs q v)) hix (by rw [ea]; exact ro.put rv) (fun c z e => by
          have eo' : H5 D = some (.dK kvs) := eo
          rw [eo'] at e
          cases e)
        have e6 : (W1 ++ [(D, AO.dK (acc i))]).set W1.length (D, .dK (acc (i + 1))) = W1 ++ [(D, .dK (acc (i + 1)))] := by
          rw [List.set_append_right _ _ (Nat.le_refl _), Nat.sub_self]
          rfl
        rw [e6] at s7
        exact st6.trans s7
      | false =>
        rw [if_neg Bool.false_ne_true]
        rw [h2 rfl]
        exact ⟨G3, st4, le.trans s4.le⟩
    · have e : i = ds.length := by omega
      subst e
      exact .inl ⟨w2 (Nat.le_refl _), k D G' H' hD0 (st.perm (List.Perm.refl _) List.perm_append_comm)⟩
end
end Sh
set_option Elab.async false
set_option linter.all false
set_option maxRecDepth 100000
set_option maxHeartbeats 1000000
set_option autoImplicit false
/-! ShN: x += e. -/
namespace Sh
open PySem PySem.Spec PyProof.Rows L2
section
variable {F : CF} {Γ : Ga} {W W1 W2 W3 : OW} {pos p : Pos} {a b c e : Expr} {d d1 d2 d3 : D} {o : Out} {A : AE}
/-- x += e, ints -/
theorem s1_augI (i : Nat) {x : Str} {pos' : Pos} {m n : Int} (hi : F.N[i]? = some x) (hx : LocS F.sc x) (hΓ : Γ[i]? = some (some (.int m))) (h : EV F e Γ W (.ok (.int n)) W1) (hA : A.nx (Γ.set i (some (.int (m + n)))) W1) : S1 F (.AugAssign (.Name x pos') .Add e pos) Γ W A :=
  fun G H σ De sl hk k => ⟨tAug i (cE F e) (ipI fun i j => i + j), fun X hX => ps_aug hX.nd (by rw [hX.N]; exact hi) (hX.loc hx) (cE_pe hX.toSat) ip_add (.inl (hX.fn x)), by
    obtain ⟨v, e1, r⟩ := sl.2 i _ hΓ
    refine ⟨v, e1, h G H σ _ sl hk fun w G1 H1 s1 r1 => ⟨m, n, r.int_inv, r1.int_inv, ?_⟩⟩
    exact k.nx _ W1 G1 H1 _ hA s1 ((sl.mono s1.le).put i (.int _))⟩
/-- xs += e, xs owned -/
theorem s1_augL (i j : Nat) {x : Str} {pos' : Pos} {q : Addr} {xs ys : List D} (hi : F.N[i]? = some x) (hx : LocS F.sc x) (hΓ : Γ[i]? = some (some (.ptr q))) (h : EV F e Γ W (.ok d) W1) (hj : W1[j]? = some (q, .lst xs)) (hd : AsL W1 d ys) (hz : xs.length + ys.length ≤ sizeLine)
    (hA : A.nx (Γ.set i (some (.ptr q))) (W1.set j (q, .lst (xs ++ ys)))) : S1 F (.AugAssign (.Name x pos') .Add e pos) Γ W A :=
  fun G H σ De sl hk k => ⟨tAug i (cE F e) rExt2, fun X hX => ps_aug hX.nd (by rw [hX.N]; exact hi) (hX.loc hx) (cE_pe hX.toSat) iop_ext (.inl (hX.fn x)), by
    obtain ⟨v, e1, r⟩ := sl.2 i _ hΓ
    obtain rfl := r.ptr_inv
    refine ⟨_, e1, h G H σ _ sl hk fun w G1 H1 s1 r1 => ?_⟩
    obtain ⟨a, vs, rfl, e2, q2⟩ := hd.at s1.hk r1
    obtain ⟨_, ob, eo, ro⟩ := s1.hk.own _ (List.mem_of_getElem? hj)
    obtain ⟨us, rfl, ro⟩ := ro.lst_inv
    refine ⟨q, a, us, vs, rfl, rfl, eo, e2, by rw [ro.1, q2.1]; exact hz, ?_⟩
    exact k.nx _ _ G1 _ _ hA (s1.trans (s1.hk.write hj (ro.append q2) fun c z e' => by
      have eo' : H1 q = some (.lst us) := eo
      rw [eo'] at e'
      cases e')) ((sl.mono s1.le).put i (.ptr q))⟩
/-- xs += [..] and the like: a new list -/
theorem s1_augN (i j : Nat) {x : Str} {pos' : Pos} {q : Addr} {xs ys : List D} (hi : F.N[i]? = some x) (hx : LocS F.sc x) (hΓ : Γ[i]? = some (some (.ptr q))) (h : EN F e Γ W ys W1) (hj : W1[j]? = some (q, .lst xs)) (hz : xs.length + ys.length ≤ sizeLine)
    (hA : A.nx (Γ.set i (some (.ptr q))) (W1.set j (q, .lst (xs ++ ys)))) : S1 F (.AugAssign (.Name x pos') .Add e pos) Γ W A :=
  s1_augL i j hi hx hΓ h.ev hj .lst hz hA
/-- a text of the module -/
theorem ev_globS {x z : Str} {t : Tok} (hg : GlS F x) (hm : F.mg x = some (.str z t)) (hdb : (x == ("__debug__" : Str)) = false := by decide) : EV F (.Name x pos) Γ W (.ok (.str z)) W :=
  ev_glob (v := .str z) hg hm ⟨t, rfl⟩ (fun _ => .str z) hdb
theorem ET.to {r r' : Bool} (h : ET F e Γ W (.ok r) W1) (q : r = r') : ET F e Γ W (.ok r') W1 := q ▸ h
theorem EV.to (h : EV F e Γ W (.ok d) W1) (q : d = d1) : EV F e Γ W (.ok d1) W1 := q ▸ h
theorem EN.to {ds ds' : List D} (h : EN F e Γ W ds W1) (q : ds = ds') : EN F e Γ W ds' W1 := q ▸ h
end
end Sh
set_option Elab.async false
set_option linter.all false
set_option maxRecDepth 100000
set_option maxHeartbeats 2000000
set_option autoImplicit false
/-! ShP: lambdas handed to a def that calls them. -/
namespace Sh
open PySem PySem.Spec PyProof.Rows L2 LamX

/-- a lambda's code object stands at c, the table at P has grown -/
structure LGrow (T : List (Addr × Str)) (P : Addr) (q : Str) (c : Addr) (H H1 : Hp) : Prop where
  mem : (P, q) ∈ T
  keep : ∀ b o, H b = some o → b ≠ P → H1 b = some o
  tab : ∃ ps, H1 P = some (.tbl ps) ∧ TriplesOk ps.toList
  was : ∃ ps, H P = some (.tbl ps)
  tabs : Tabs T H1
  code : H1 c = some (CodeO c q)
  new : H c = none ∨ ∃ ps pos, H P = some (.tbl ps) ∧ codeAmong pos ps.toList = some (.ref c)
  one : ∀ p ∈ T, p.1 = P → p.2 = q
  grown : ∀ ps1, H1 P = some (.tbl ps1) → ∀ pos cv, codeAmong pos ps1.toList = some cv → cv = .ref c ∨ ∃ ps, H P = some (.tbl ps) ∧ codeAmong pos ps.toList = some cv
theorem LGrow.step {K : PySem.W.Frag} {T : Tb} {G H H1 : Hp} {W : OW} {P c : Addr} {q : Str} (h : Hk K T G W H) (g : LGrow T.l P q c H H1) : Step K T G W H (upd G c (CodeO c q)) W H1 := by
  obtain ⟨ps0, w0⟩ := g.was
  have nP : ∀ a o, H a = some o → (∀ qs, o ≠ .tbl qs) → a ≠ P := fun a o e n z => by
    rw [z, w0] at e
    exact n ps0 (Option.some.inj e).symm
  have gc : H c = none ∨ G c = some (CodeO c q) := by
    rcases g.new with n | ⟨ps, pos, e1, e2⟩
    · exact .inl n
    · obtain ⟨c', e3, e4⟩ := h.tab.2.2 _ g.mem ps e1 pos _ e2
      cases e3
      exact .inr e4
  have le : Le G (upd G c (CodeO c q)) := fun b o e => by
    by_cases hb : b = c
    · subst hb
      rcases gc with n | n
      · rw [h.gn n] at e; cases e
      · rw [n] at e; cases e; exact upd_same
    · rw [upd_ne hb]; exact e
  have nW : c ∉ W.map (·.1) := fun z => by
    obtain ⟨p, hp, e⟩ := List.mem_map.mp z
    obtain ⟨h1, o, h2, _⟩ := h.own p hp
    rw [e] at h1 h2
    rcases gc with n | n
    · rw [n] at h2; cases h2
    · rw [n] at h1; cases h1
  refine ⟨le, fun a o e => ?_, fun _ q => .inl q, fun a o e _ n => g.keep a o e (nP a o e n), fun a o e => ?_, fun a o e => ?_, fun a ps e => ?_, h.nod, fun p hp => ?_, fun P' hP' => ?_, g.tabs, fun p hp ps e pos cv hc => ?_⟩
  · by_cases ha : a = c
    · subst ha
      rcases gc with n | n
      · exact .inr (.inl n)
      · rw [upd_same] at e; cases e; exact .inl n
    · rw [upd_ne ha] at e; exact .inl e
  · by_cases ha : a = P
    · obtain ⟨ps, e2, _⟩ := g.tab
      exact ⟨_, by rw [ha]; exact e2⟩
    · exact ⟨o, g.keep a o e ha⟩
  · by_cases ha : a = c
    · subst ha
      rw [upd_same] at e; cases e; exact g.code
    · rw [upd_ne ha] at e
      exact g.keep a o (h.sub a o e) (nP a o (h.sub a o e) fun qs z => h.ntb a qs (by rw [e, z]))
  · by_cases ha : a = c
    · subst ha
      rw [upd_same] at e; exact codeO_ne _ (Option.some.inj e)
    · rw [upd_ne ha] at e; exact h.ntb a ps e
  · obtain ⟨h1, o, h2, h3⟩ := h.own p hp
    have np : p.1 ≠ c := fun z => nW (z ▸ List.mem_map_of_mem hp)
    exact ⟨by rw [upd_ne np]; exact h1, o, g.keep _ o h2 (nP _ o h2 h3.ntb), h3.mono le⟩
  · by_cases ha : P' = P
    · obtain ⟨ps, e2, t2⟩ := g.tab
      exact ⟨ps, by rw [ha]; exact e2, t2⟩
    · obtain ⟨qs, h1, h2⟩ := h.tab.1 P' hP'
      exact ⟨qs, g.keep _ _ h1 ha, h2⟩
  · by_cases ha : p.1 = P
    · rw [ha] at e
      rcases g.grown ps e pos cv hc with z | ⟨ps2, z1, z2⟩
      · exact ⟨c, z, by rw [g.one p hp ha]; exact upd_same⟩
      · rw [← ha] at z1
        obtain ⟨c2, e1, e2⟩ := h.tab.2.2 p hp ps2 z1 pos cv z2
        exact ⟨c2, e1, le _ _ e2⟩
    · obtain ⟨ps2, e2, _⟩ := h.tab.2.1 p hp
      have e3 := g.keep _ _ e2 ha
      rw [e] at e3
      cases e3
      obtain ⟨c2, e1, e4⟩ := h.tab.2.2 p hp ps e2 pos cv hc
      exact ⟨c2, e1, le _ _ e4⟩
section
variable {X : Cx} {pins : List (Addr × Obj)} {σ : L2.St} {H : Hp} {s : Shared}
theorem lam_mk {T : List (Addr × Str)} {c P : Addr} {params : Arguments} {body : Expr} {scope : Scope} {pos : Pos} {E : Value → Shared → Prop} {Q : Value → Shared → Prop} (I : Inv X pins σ H s) (TB : LamX.TabB X.base X.mg c P) (hcode : X.env.code = .ref c)
    (hm : (P, X.env.qual ++ "<lambda>") ∈ T) (hu : ∀ p ∈ T, p.1 = P → p.2 = X.env.qual ++ "<lambda>") (hT : Tabs T H) (hdef : defaultsOf params X.env = ([], [])) (hfree : ∀ y ∈ scope.names, y.2 = .free → ∃ c, X.env.cells.lookup y.1 = some c)
    (h : ∀ (f c' : Addr) (pm ctv : Value) (H1 : Hp) (s' : Shared), Inv X pins σ H1 s' → LGrow T P (X.env.qual ++ "<lambda>") c' H H1 → s.heap.objs.size ≤ f →
      s'.heap.get? f = some (PySem.W.kla_obj "<lambda>" (X.env.qual ++ "<lambda>") params body scope (cloFrom X.env.cells scope.names []) pm c' ctv) → H1 f = none → f ∉ frs X.stack → Q (.ref f) s') :
    wpAny (model X.prog X.w) X.A (eval (.Lambda params body scope pos) X.env) Q E s := by
  obtain ⟨ps, hP, ht, ha⟩ := hT _ hm
  refine PySem.W.kla_eval hdef ?_
  have bP : s.heap.BuiltinsAt X.mg P := TB.bm.keeps I.bk
  have hP' : s.heap.get? P = some { cls := .none, data := .fields ps } := I.hok P _ hP
  have nofr : ∀ f, s.heap.objs.size ≤ f → f ∉ frs X.stack := fun f hf z => by
    rcases List.mem_cons.mp (I.stkSub _ z) with e | e
    · have h1 := I.lt
      rw [← e] at h1
      exact Nat.lt_irrefl _ (Nat.lt_of_lt_of_le h1 hf)
    · exact I.nofs hf e
  cases hc : codeAmong pos ps.toList with
  | none =>
    refine PySem.W.kla_makeFunction (mg := X.mg) (c := c) (P := P) (ps := ps) (closure_ok hfree) I.ok.glob (I.mod.glob.keeps I.bk) hcode (TB.code.keeps I.bk) hP' ht hc TB.gP bP fun c' ctv h' tk hx hge hlt hrec htb => ?_
    obtain ⟨c2, oc, vs, t, e2, hoc, hd, hv⟩ := hrec
    cases e2
    have hsz : s.heap.objs.size ≤ h'.objs.size := Nat.le_trans hge (Nat.le_of_lt hlt)
    have nC : H c' = none := I.hok.fresh hge
    have I1 := inv_table (t' := tk) (more := #[rawInt pos.line, rawInt pos.col, .ref c']) (h' := h'.push (PySem.W.kla_obj "<lambda>" (X.env.qual ++ "<lambda>") params body scope (cloFrom X.env.cells scope.names []) ((X.mg "__name__").getD .none) c' ctv)) I hP
      (fun b o hb e => Heap.get?_push_of_some _ (hx b o hb e)) (Heap.get?_push_of_some _ htb) hge ⟨oc, vs, t, Heap.get?_push_of_some _ hoc, hd, hv⟩
    have hE : ∀ b o, H b = some o → b ≠ P → upd (upd H P (.tbl (ps ++ #[rawInt pos.line, rawInt pos.col, .ref c']))) c' (CodeO c' (X.env.qual ++ "<lambda>")) b = some o := fun b o e n => by
      rw [upd_ne (ne_of_none e nC), upd_ne n]
      exact e
    have nPo : ∀ b o, H b = some o → (∀ qs, o ≠ .tbl qs) → b ≠ P := fun b o e n z => by
      rw [z, hP] at e
      exact n ps (Option.some.inj e).symm
    have eL : (ps ++ #[rawInt pos.line, rawInt pos.col, .ref c']).toList = ps.toList ++ [rawInt pos.line, rawInt pos.col, .ref c'] := by simp
    have tn : TriplesOk (ps ++ #[rawInt pos.line, rawInt pos.col, .ref c']).toList := by rw [eL]; exact PySem.TriplesOk_snoc _ _ _ _ ht
    refine h h'.objs.size c' ((X.mg "__name__").getD .none) ctv _ _ I1 ⟨hm, hE, ⟨_, by rw [upd_ne (ne_of_none hP nC), upd_same], tn⟩, ⟨ps, hP⟩, fun p hp => ?_, upd_same, .inl nC, hu, fun ps1 e p' cv hcv => ?_⟩ hsz (Heap.get?_push_size _ rfl) ?_ (nofr _ hsz)
    · by_cases hb : p.1 = P
      · rw [hu p hp hb, hb]
        refine ⟨_, by rw [upd_ne (ne_of_none hP nC), upd_same], tn, fun p' cv hcv => ?_⟩
        rw [eL] at hcv
        rcases among_app _ ht hcv with z | z
        · obtain ⟨c0, e1, e2⟩ := ha p' cv z
          exact ⟨c0, e1, hE _ _ e2 (nPo _ _ e2 codeO_ne)⟩
        · exact ⟨c', z, upd_same⟩
      · obtain ⟨ps', a1, a2, a3⟩ := hT p hp
        refine ⟨ps', hE _ _ a1 hb, a2, fun p' cv hcv => ?_⟩
        obtain ⟨c0, e1, e2⟩ := a3 p' cv hcv
        exact ⟨c0, e1, hE _ _ e2 (nPo _ _ e2 codeO_ne)⟩
    · rw [upd_ne (ne_of_none hP nC), upd_same] at e
      cases e
      rw [eL] at hcv
      rcases among_app _ ht hcv with z | z
      · exact .inr ⟨ps, hP, z⟩
      · exact .inl z
    · have n1 : h'.objs.size ≠ c' := Nat.ne_of_gt hlt
      have n2 : h'.objs.size ≠ P := Nat.ne_of_gt (Nat.lt_of_lt_of_le (Heap.lt_size hP') hsz)
      rw [upd_ne n1, upd_ne n2]
      exact I.hok.fresh hsz
  | some cv =>
    obtain ⟨c', e, hco⟩ := ha pos cv hc
    subst e
    refine PySem.W.kla_makeFunctionHit (mg := X.mg) (c := c) (P := P) (ps := ps) (closure_ok hfree) I.ok.glob (I.mod.glob.keeps I.bk) hcode (TB.code.keeps I.bk) hP' ht hc bP fun ctv h' tk hx hsz => ?_
    have I1 : Inv X pins σ H { s with heap := h'.push (PySem.W.kla_obj "<lambda>" (X.env.qual ++ "<lambda>") params body scope (cloFrom X.env.cells scope.names []) ((X.mg "__name__").getD .none) c' ctv), toks := tk } := I.kept fun b o e => Heap.get?_push_of_some _ (hx b o e)
    exact h h'.objs.size c' ((X.mg "__name__").getD .none) ctv H _ I1 ⟨hm, fun _ _ e _ => e, ⟨ps, hP, ht⟩, ⟨ps, hP⟩, hT, hco, .inr ⟨ps, pos, hP, hc⟩, hu, fun ps1 e p' cv hcv => .inr ⟨ps1, e, hcv⟩⟩ hsz (Heap.get?_push_size _ rfl) (I.hok.fresh hsz) (nofr _ hsz)
end

/-- within a lambda's body -/
abbrev CF.lam (F : CF) (scope : Scope) (cd : Value) (E : XK) : CF := { F with sc := scope, cd := cd, k := F.k - 2, E := E, q := F.q ++ "<lambda>" ++ ".<locals>.", cl := none }
/-- a lambda without parameters, all its names captured or global -/
structure LamB (sc scope : Scope) (params : Arguments) (body : Expr) : Prop where
  sc : LamS sc scope
  defs : ∀ env, defaultsOf params env = ([], [])
  bind : ∀ (q : Str) (cl : List (Str × Addr)) (pm cv ctv : Value), bindArgs (PySem.W.kla_fn "<lambda>" q params body scope cl pm cv ctv) ⟨[], []⟩ = pure []
/-- what the making of lambdas asks of the def: its code object's table -/
structure LTab (F : CF) : Prop where
  ex : ∃ c P, F.cd = .ref c ∧ LamX.TabB F.base F.mg c P ∧ (P, F.q ++ "<lambda>") ∈ F.T.l ∧ ∀ p ∈ F.T.l, p.1 = P → p.2 = F.q ++ "<lambda>"
/-- x: try: return a() / except e: return ret, the error class at CS -/
structure Told (P : Program) (w : World) (K : PySem.W.Frag) (mg : Str → Option Value) (x : Str) (CS : Addr) (ret : Str) : Prop where
  ex : ∃ (g : Addr) (a e : Str) (pg : Arguments) (bg : List Stmt) (sg : Scope) (dV kV doc pm cdv ct oc : Value) (an od : Option Addr) (osl : Array (Option Value)) (Ng : List Str) (j : Nat) (p1 p2 p3 p4 p5 p6 p7 p8 : Pos), mg x = some (.ref g) ∧ PySem.W.keepIn K (.ref g) = true ∧
    K.lookup g = some ⟨oc, od, .func (PySem.W.fnOf x x pg bg sg dV kV doc pm an cdv ct), osl⟩ ∧ PySem.W.codeIn K cdv x = true ∧ L2.Binds K (PySem.W.fnOf x x pg bg sg dV kV doc pm an cdv ct) [a] [] ∧ FnScope Ng [a] sg ∧ Ng[0]? = some a ∧ Vis sg a ∧
    bg = [.Try [.Return (some (.Call (.Name a p1) [] [] p2)) p3] [.ExceptHandler (some (.Name e p4)) none [.Return (some (.Constant (.str ret) j p5)) p6] p7] [] [] p8] ∧ sg.names.lookup e = some .globalImplicit ∧ mg e = some (.ref CS) ∧ (e == ("__debug__" : Str)) = false ∧
    (a == ("__debug__" : Str)) = false ∧ (a == ("__classdict__" : Str)) = false ∧ ∀ f : Addr, (L2.start Ng [V.ref f])[0]? = some (some (V.ref f))
/-- what told gives -/
def toldOut (K : PySem.W.Frag) (CS : Addr) (ret : Str) : Out → D → Prop
  | .ok d, d' => d' = d
  | .er c, d' => d' = .str ret ∧ PySem.W.exmOne K (.ref c) (.ref CS) = some true
section
variable {F : CF} {Γ : Ga} {W W1 : OW} {pos p lpos : Pos} {o : Out} {d : D}
theorem lam_sat {X : Cx} {A : Around} {outer : List Env} {s : Shared} {H : Hp} {E : XK} {scope : Scope} {f c' : Addr} (hX : Sat F X) (hr : Room (F.k - 2) (A.deeper (lamEnv X scope s.heap.objs.size f c'))) : Sat (F.lam scope (.ref c') E) (lamCx X A outer s H E scope f c') :=
  ⟨hX.P, hX.w, hX.K, hX.mg, hX.base, hX.N, rfl, rfl, hr, rfl, passes_call (X := lamCx X A outer s H E scope f c') (takes_of rfl rfl rfl rfl) (fun cls d σ H h => h), by show X.env.qual ++ _ ++ _ = _; rw [hX.qual], fun _ e => nomatch e⟩
theorem ev_told {x : Str} {CS : Addr} {ret : Str} {params : Arguments} {body : Expr} {scope : Scope} (T : Told F.P F.w F.K F.mg x CS ret) (lt : LTab F) (lb : LamB F.sc scope params body) (hg : GlS F x) (hk2 : 2 ≤ F.k) (h : ∀ cd E, EV (F.lam scope cd E) body Γ W o W1) (ho : toldOut F.K CS ret o d)
    (hdb : (x == ("__debug__" : Str)) = false := by decide) : EV F (.Call (.Name x p) [.Lambda params body scope lpos] [] pos) Γ W (.ok d) W1 :=
  fun G H σ Q sl hk k => ⟨fun σ H Q => Slots F.K G Γ σ ∧ Hk F.K F.T G W H ∧ Kont F G W H (.ok d) W1 Q, fun X hX => ⟨fun pins s σ H Q I ⟨sl, hk, k⟩ => by
    obtain ⟨g, a, e, pg, bg, sg, dV, kV, doc, pm, cdv, ct, oc, an, od, osl, Ng, j, p1, p2, p3, p4, p5, p6, p7, p8, t1, t2, t3, t4, t5, t6, t7, t8, t9, t10, t11, t12, t13, t14, t15⟩ := T.ex
    obtain ⟨c, P, l1, l2, l3, l4⟩ := lt.ex
    subst t9
    have hr := hX.room
    rw [← hX.K] at t2 t3 t4 t5
    rw [← hX.mg] at t1 t11
    rw [← hX.base, ← hX.mg] at l2
    rw [← hX.qual] at l3 l4
    have L : LamS X.env.scope scope := by rw [hX.sc]; exact lb.sc
    refine wpAny_Call_Name_kw (ld_glob I (hX.gl hg) t1 ?_ hdb)
    refine PySem.W.callWith_K (h₀ := X.base) I.ok.mod.kin t2 ?_ (by rfl) (by rfl)
    show wpAny _ _ (spliced ((false, eval (.Lambda params body scope lpos) X.env) :: backTo pos (starEach [] X.env))) _ _ s
    refine Calls.spliced_cons (lam_mk I l2 (hX.cd.trans l1) l3 l4 hk.tab.2.1 (lb.defs _) (L.has I.ok) fun f c' pm' ctv H1 s' I1 gr hsz hf hfn hfr => ?_)
    refine Calls.spliced_nil ⟨I1.kIn, ?_⟩
    have st := gr.step hk
    have rc : codeAny (model X.prog X.w) X.A (.call (.ref g) ⟨[.ref f], []⟩) (CR C8.CX0 X.stack X.prog X.w H1 s' Q C8.E0) s' := by
      refine run_ofS (k := F.k - 1) (N := Ng) (ps := [a]) (us := [.ref f]) (vs := [.ref f]) t3 t4 t6 (hr.mono (by omega)) I1.env0 (t5 s' [.ref f] I1.kIn rfl) (.cons rfl .nil) rfl fun hr' => ?_
      have hr2 : Room (F.k - 2 + 1) (X.A.deeper (envOfC x sg s'.heap.objs.size g cdv)) := hr'.mono (by omega)
      obtain ⟨t', ht', hq'⟩ := told_gives (X := X) (Ng := Ng) (x := x) (a := a) (q := X.env.qual ++ "<lambda>") (ret := ret) (sg := sg) (g := g) (cdg := cdv) (j := j) (p1 := p1) (p2 := p2) (p3 := p3) (p4 := p4) (p5 := p5) (p6 := p6) (p7 := p7) (p8 := p8) t10 t11 t12 t15 f c' s' H1 Q (fun E H' Q' => cE (F.lam scope (.ref c') E) body σ H' Q')
        (fun W pn xe E q1 q2 tk hW => pe_act (i := 0) I1 L hf hfn hfr (lb.bind _ _ _ _ _) tk hW hr2 (fun A outer s H hr3 => cE_pe (lam_sat hX hr3)) t7 t8 t13 t14) gr.code
        (h _ _ _ H1 σ Q (sl.mono st.le) st.hk (by
          cases o with
          | ok d0 =>
            obtain rfl : d = d0 := ho
            exact fun v G' H' s2 r => k v G' H' (st.trans s2) r
          | er cl =>
            obtain ⟨e1, e2⟩ := ho
            subst e1
            exact fun G' H' s2 => ⟨true, by rw [hX.K]; exact e2, fun _ => k _ G' H' (st.trans s2) (.str ret), fun z => by cases z⟩))
      exact ⟨t', ht'.nox, hq'⟩
    refine wpAny_call (codeAny_mono rc fun r s2 hq => ?_)
    cases r with
    | error e => exact (show False from hq).elim
    | ok fl =>
      cases fl with
      | ret u => exact I1.after hq
      | next => exact False.elim hq
      | brk => exact False.elim hq
      | cont => exact False.elim hq⟩, sl, hk, k⟩
end
end Sh
set_option Elab.async false
set_option linter.all false
set_option maxRecDepth 100000
set_option maxHeartbeats 2000000
set_option autoImplicit false
/-! ShQ: lists of lambdas, each told. -/
namespace Sh
open PySem PySem.Spec PyProof.Rows L2 LamX

section
variable {X : Cx} {pins : List (Addr × Obj)} {σ : L2.St} {H : Hp} {s : Shared}
/-- an object of ours that is known from now on -/
theorem Inv.adopt {a : Addr} {φ : Heap → Prop} (I : Inv X pins σ H s) (f : FpOk X pins H a) (h0 : X.s_0.heap.objs.size ≤ a) (ok : ObjOk X.prog X.w (upd H a (.ext φ)) s.heap a (.ext φ)) : Inv X pins σ (upd H a (.ext φ)) s := by
  obtain ⟨f0, f1, f2, f3, f4, f5⟩ := f
  have ne : ∀ b u, H b = some u → b ≠ a := fun b u e => ne_of_none e f0
  have ne0 : ∀ b o, X.s_0.heap.get? b = some o → b ≠ a := fun b o e => Nat.ne_of_lt (Nat.lt_of_lt_of_le (Heap.lt_size e) h0)
  refine ⟨I.ok, I.os, I.bare, ⟨I.base.keep, I.base.slot, fun b o e n hx => by rw [upd_ne (ne0 b o e)]; exact I.base.free b o e n hx, I.base.there, fun b xs e => ?_, fun b o u e => ?_, fun b ps e => ?_⟩, I.loc, I.cell, by rw [upd_ne (Ne.symm f1)]; exact I.free, fun x c e => by rw [upd_ne (f4 x c e)]; exact I.freeC x c e, fun p hp => ?_, fun b u e => ?_, I.len⟩
  · have q := I.base.tups b xs e
    rw [upd_ne (ne b _ q)]; exact q
  · have q := I.base.frzs b o u e
    rw [upd_ne (ne b _ q)]; exact q
  · obtain ⟨more, q⟩ := I.base.tbls b ps e
    exact ⟨more, by rw [upd_ne (ne b _ q)]; exact q⟩
  · obtain ⟨h1, h2, h3⟩ := I.pin p hp
    exact ⟨h1, by rw [upd_ne (f5 p hp)]; exact h2, h3⟩
  · by_cases hb : b = a
    · subst hb
      rw [upd_same] at e
      cases e
      exact ok
    · rw [upd_ne hb] at e
      exact (I.hok b u e).stay (fun _ _ _ q => q) (fun c q => by rw [upd_ne (ne c _ q)]; exact q) fun c xs q => by rw [upd_ne (ne c _ q)]; exact q

/-- the block of a list comprehension, the def's state at its beginning known -/
theorem lc_known {Q : VK} {elt tg iter : Expr} {ifs : List Expr} {scope : Scope} {own : List (Str × Nat)} {pos : Pos} {wi : TI} {g : TG} {tt : TT} {te : TE}
    (hc : X.calm = true) (hN : X.N.Nodup) (I : Inv X pins σ H s) (hi : PI X tg iter wi) (ok : BlkOk X.N X.env.scope scope own)
    (hg : ∀ (s : Shared) (H : Hp) (C : Addr) (cl : List (Str × Addr)) (fp : List Addr), PG (X.blk s H scope (compEnvC scope cl C X.env) fp) tg g)
    (ht : ∀ (s : Shared) (H : Hp) (C : Addr) (cl : List (Str × Addr)) (fp : List Addr), Inv X pins σ H s → (∀ b ∈ fp, FpOk X pins H b) → PTs (X.blk s H scope (compEnvC scope cl C X.env) fp) ifs tt)
    (he : ∀ (s : Shared) (H : Hp) (C : Addr) (cl : List (Str × Addr)) (fp : List Addr), PE (X.blk s H scope (compEnvC scope cl C X.env) fp) elt te) (hs : ∀ x, foldedSetIterable iter X.env x = pure x)
    (h : tLc wi g tt te (own.map (·.2)) σ H Q) : wpAny (model X.prog X.w) X.A (eval (.ListComp elt [⟨tg, iter, ifs, 0⟩] scope pos) X.env) (EP X pins σ Q) X.xe s := by
  rw [eval_ListComp]
  have hRR : ∀ D C s' m H', Inv X pins σ H' s' → Q (.ref D) H' → s'.heap.Ns C m → FpOk X pins H' C → compPost (model X.prog X.w) X.A X.xe none (EP X pins σ Q) (.ref D) C (.ok .next) s' := fun D C s' m H' I' q hn f => ⟨m, hn, fun h'' sb => by
    obtain ⟨f0, f1, f2, f3, f4, f5⟩ := f
    exact ⟨.ref D, H', I'.turned (t' := s'.toks) (fun b o hb e => (sb.2 b hb).trans e) f0 f1 f3 f4 f5, rfl, q⟩⟩
  have hfree : ∀ y ∈ scope.names, y.2 = .free → ∃ c, X.env.cells.lookup y.1 = some c := fun y hy e => by
    rcases ok.free y hy e with k | k
    · exact I.ok.has _ (.inl k)
    · exact I.ok.has _ (.inr k)
  refine wpAny_comprehension_free (use := none) rfl hs (closure_ok hfree) ok.kind (fun y hy e => by rw [ok.uniq y hy, e])
    (thn (hi.run pins s σ H _ I h) fun xv s1 hx => thn hx fun itv s2 h2 => ?_)
  obtain ⟨it, fp, tn, J, H2, e, I2, T, st2, f2, q⟩ := h2
  subst e
  refine wpAny_newObj_type (newEnv_comp ?_) (by show 0 ≤ sizeLine; decide)
  generalize hD : s2.heap.objs.size = D
  have hDn : H2 D = none := I2.hok.fresh (Nat.le_of_eq hD)
  obtain ⟨W, ⟨m0, w0⟩, turn⟩ := q D hDn
  generalize hs3 : ({ s2 with heap := s2.heap.push { cls := .type "list", data := .seq ([] : List Value).toArray } } : Shared) = s3
  have I3 : Inv X pins σ (upd H2 D (.lst [])) s3 := by
    rw [← hs3]
    refine I2.laid (t' := s2.toks) (fun b o e => Heap.get?_push_of_some _ e) (Nat.le_of_eq hD) ⟨Nat.zero_le _, [], 0, .nil, ?_⟩
    rw [← hD]
    exact Heap.get?_push_size _ rfl
  have h3 : s3.heap = s2.heap.push { cls := .type "list", data := .seq ([] : List Value).toArray } := by rw [← hs3]
  have sz : ∀ b ∈ fp, b < s2.heap.objs.size := fun b hb => by
    obtain ⟨o, e, _⟩ := T.obj _ _ st2 b hb
    exact Heap.lt_size e
  have f3 : ∀ b ∈ fp, FpOk X pins (upd H2 D (.lst [])) b ∧ b < s3.heap.objs.size := fun b hb => by
    have hlt := sz b hb
    refine ⟨⟨?_, (f2 b hb).2⟩, by rw [h3, Heap.size_push]; exact Nat.lt_succ_of_lt hlt⟩
    rw [upd_ne (by rw [← hD]; exact Nat.ne_of_lt hlt)]
    exact (f2 b hb).1
  have st3 : tn 0 s3.heap := T.keep _ _ _ st2 fun b _ o e => by rw [h3]; exact Heap.get?_push_of_some _ e
  have I4 := block_start I3 ok hN f3
  have pg := hg s3 (upd H2 D (.lst [])) s3.heap.objs.size (cellsFrom (s3.heap.objs.size + 1) scope.names (cloFrom X.env.cells scope.names [])) fp
  have pt := ht s3 (upd H2 D (.lst [])) s3.heap.objs.size (cellsFrom (s3.heap.objs.size + 1) scope.names (cloFrom X.env.cells scope.names [])) fp I3 fun b hb => (f3 b hb).1
  have pe := he s3 (upd H2 D (.lst [])) s3.heap.objs.size (cellsFrom (s3.heap.objs.size + 1) scope.names (cloFrom X.env.cells scope.names [])) fp
  show codeAny _ _ (.compStart (.ListComp elt [⟨tg, iter, ifs, 0⟩] scope pos) 0 (.ref it) (.ref D) (compEnvC scope (cellsFrom (s3.heap.objs.size + 1) scope.names (cloFrom X.env.cells scope.names [])) s3.heap.objs.size X.env)) (compPost (model X.prog X.w) X.A X.xe none (EP X pins σ Q) (.ref D) s3.heap.objs.size) { s3 with heap := pushCells (s3.heap.push { cls := .type "dict", data := .dict #[] }) scope.names }
  have nfp : ∀ b ∈ fp, (upd H2 D (.lst [])) b = none := fun b hb => (f3 b hb).1.1
  generalize hce : compEnvC scope (cellsFrom (s3.heap.objs.size + 1) scope.names (cloFrom X.env.cells scope.names [])) s3.heap.objs.size X.env = ce at I4 pg pt pe ⊢
  have cL : ce.locals = s3.heap.objs.size := by subst hce; rfl
  generalize hH3 : upd H2 D (.lst []) = H3 at I3 I4 pg pt pe w0 nfp f3
  generalize hs4 : ({ s3 with heap := pushCells (s3.heap.push { cls := .type "dict", data := .dict #[] }) scope.names } : Shared) = s4 at I4 ⊢
  have st4 : tn 0 s4.heap := T.keep _ _ _ st3 fun b _ o e => by rw [← hs4]; exact pushCells_keeps _ _ _ _ (Heap.get?_push_of_some _ e)
  have stat : ∀ {σ' : L2.St} {H' : Hp} {s' : Shared}, Inv (X.blk s3 H3 scope ce fp) [] σ' H' s' → (∀ b ∈ fp, H' b = none) → ∀ b ∈ fp, FpOk (X.blk s3 H3 scope ce fp) [] H' b := fun {σ' H' s'} I' hn b hb =>
    ⟨hn b hb, (I'.ok.exf b hb).1, I'.ok.exfs b hb, .inl hb, fun x c e => (I'.ok.exf b hb).2 x c e, fun p hp => absurd (show p ∈ ([] : List (Addr × Obj)) ++ [] from hp) (by simp)⟩
  have loop : codeAny (model X.prog X.w) X.A (.compLoop (.ListComp elt [⟨tg, iter, ifs, 0⟩] scope pos) 0 (.ref it) (.ref D) ce) (compPost (model X.prog X.w) X.A X.xe none (EP X pins σ Q) (.ref D) s3.heap.objs.size) s4 := by
    refine compLoop_any (fun n s' => ∃ i H', Inv (X.blk s3 H3 scope ce fp) [] (wipe σ (own.map (·.2))) H' s' ∧ tn i s'.heap ∧ (∀ b ∈ fp, H' b = none) ∧ W i n H') ?_ m0 ⟨0, H3, I4, st4, nfp, w0⟩
    rintro n s5 ⟨i, H5, I5, st5, n5, w5⟩
    rcases turn i n H5 w5 with ⟨stop, qq⟩ | ⟨go, Nx, hNx, step⟩
    · have td := T.done (X.blk s3 H3 scope ce fp) rfl rfl rfl hc i [] s5 _ H5 (fun _ _ => False) I5 (stat I5 n5) st5 stop
      refine thnF td fun r s6 ⟨hr, I6⟩ => ?_
      subst hr
      have I7 : Inv X pins σ H5 s6 := I3.call' (ch := fp) I6.os I6.base I6.hok I6.bare fun b hb => ⟨(f3 b hb).1.2.2.2.1, (f3 b hb).1.2.1, (f3 b hb).1.2.2.2.2.1, (f3 b hb).1.2.2.2.2.2⟩
      have nC : H5 s3.heap.objs.size = none := by
        have z : H5 ce.locals = none := I6.free
        rw [cL] at z
        exact z
      obtain ⟨m, hn, _⟩ := I6.loc
      have hn : s6.heap.Ns ce.locals m := hn
      rw [cL] at hn
      exact hRR D s3.heap.objs.size s6 m H5 I7 qq hn (I3.fpOk (Nat.le_refl _) nC)
    · have ti := T.item (X.blk s3 H3 scope ce fp) rfl rfl rfl hc i [] s5 _ H5 (fun _ _ => False) I5 (stat I5 n5) st5 go
      refine thnF ti fun r s6 ⟨u, hr, h6⟩ => ?_
      subst hr
      refine thnF h6 fun _ s7 ⟨x, H7, I7, r7, y7, st7, n7⟩ => ?_
      have I7' := I7.pinned (stat I7 n7) (T.obj _ _ st7)
      refine thnF (pg.run _ s7 _ H7 x u _ I7' r7 (step x H7 y7)) fun _ s8 ⟨σ8, H8, I8, hw8, q8⟩ => ?_
      refine thnF (pt.run _ s8 σ8 H8 _ I8 q8) fun b s9 ⟨H9, I9, q9⟩ => ?_
      have fin : ∀ {s' : Shared} {H' : Hp}, Inv (X.blk s3 H3 scope ce fp) ([] ++ pinsAt fp s7.heap) σ8 H' s' → Nx H' → ∃ m, m < n ∧ ∃ i H', Inv (X.blk s3 H3 scope ce fp) [] (wipe σ (own.map (·.2))) H' s' ∧ tn i s'.heap ∧ (∀ b ∈ fp, H' b = none) ∧ W i m H' := fun {s' H'} I' nx => by
        obtain ⟨m', hm, w'⟩ := hNx H' nx
        have pin' : ∀ b ∈ fp, ∀ o, s7.heap.get? b = some o → s'.heap.get? b = some o ∧ H' b = none := fun b hb o e =>
          let z := I'.pin (b, o) (List.mem_append_right _ (List.mem_append_right _ (mem_pinsAt hb e)))
          ⟨z.1, z.2.1⟩
        have hl : (wipe σ (own.map (·.2))).length = σ8.length := by rw [← hw8, wipe_length]
        refine ⟨m', hm, i + 1, H', (I'.unpinned (pins := [])).weak hl (fun j v e => ?_), T.keep _ _ _ st7 fun b hb o e => (pin' b hb o e).1, fun b hb => ?_, w'⟩
        · rw [← hw8] at e
          exact (wipe_some e).1
        · obtain ⟨o, e, _⟩ := T.obj _ _ st7 b hb
          exact (pin' b hb o e).2
      cases b with
      | false =>
        simp only [Bool.false_eq_true, if_false] at q9 ⊢
        exact fin I9 q9
      | true =>
        simp only [if_true] at q9 ⊢
        refine thnF (pe.run _ s9 σ8 H9 _ I9 q9) fun z s10 ⟨yv, H10, I10, r10, acc, hD10, hz10, nx⟩ => ?_
        exact app_ok (X := X.blk s3 H3 scope ce fp) I10 hD10 hz10 r10 fun s11 I11 => fin I11 nx
  exact codeAny_compStart_list loop (T.self X.A 0 _ _ _ st4 loop)
end

/-- a lambda's object -/
def LamO (f : Addr) (q : Str) (params : Arguments) (body : Expr) (scope : Scope) (cells : List (Str × Addr)) (pm : Value) (c : Addr) (ctv : Value) : HO := .ext fun h => h.get? f = some (PySem.W.kla_obj "<lambda>" q params body scope cells pm c ctv)
/-- what is owned at f is the lambda e, made where the cells are cl -/
def LamV (cl : List (Str × Addr)) (q : Str) (e : Expr) (f : Addr) (w : AO) : Prop := ∃ params body scope lpos pm c ctv, e = .Lambda params body scope lpos ∧ w = .lam (LamO f q params body scope (cloFrom cl scope.names []) pm c ctv) c q
section
variable {F : CF} {Γ : Ga} {W W1 : OW} {pos p lpos : Pos} {o : Out} {d : D} {e : Expr}
theorem evr_lam {P : D → OW → Prop} {params : Arguments} {body : Expr} {scope : Scope} {cl : List (Str × Addr)} (hcl : F.cl = some cl) (lt : LTab F) (lb : LamB F.sc scope params body) (hp : ∀ f w, LamV cl (F.q ++ "<lambda>") (.Lambda params body scope lpos) f w → P (.ptr f) ((f, w) :: W)) : EVR F (.Lambda params body scope lpos) Γ W P :=
  fun G H σ Q sl hk k => ⟨fun σ H Q => Slots F.K G Γ σ ∧ Hk F.K F.T G W H ∧ (∀ d W' v G' H', P d W' → Step F.K F.T G W H G' W' H' → Rp F.K G' v d → Q v H'), fun X hX => ⟨fun pins s σ H Q I ⟨sl, hk, k⟩ => by
    obtain ⟨c, P0, l1, l2, l3, l4⟩ := lt.ex
    rw [← hX.base, ← hX.mg] at l2
    rw [← hX.qual] at l3 l4
    have L : LamS X.env.scope scope := by rw [hX.sc]; exact lb.sc
    refine lam_mk I l2 (hX.cd.trans l1) l3 l4 hk.tab.2.1 (lb.defs _) (L.has I.ok) fun f c' pm' ctv H1 s' I1 gr hsz hf hfn hfr => ?_
    have st := gr.step hk
    have I2 := Inv.adopt (φ := fun h => h.get? f = some (PySem.W.kla_obj "<lambda>" (X.env.qual ++ "<lambda>") params body scope (cloFrom X.env.cells scope.names []) pm' c' ctv)) I1 (I.fpOk hsz hfn) (Nat.le_trans I.sz hsz) ⟨hf, ⟨_, hf⟩, fun h1 h2 p st => st _ p⟩
    have st2 := st.hk.allocO (p := f) (o := LamO f (X.env.qual ++ "<lambda>") params body scope (cloFrom X.env.cells scope.names []) pm' c' ctv) (w := .lam (LamO f (X.env.qual ++ "<lambda>") params body scope (cloFrom X.env.cells scope.names []) pm' c' ctv) c' (X.env.qual ++ "<lambda>")) hfn ⟨rfl, (fun ps z => by unfold LamO at z; cases z), upd_same⟩
    refine ⟨.ref f, _, I2, rfl, k _ _ _ _ _ (hp f _ ⟨params, body, scope, lpos, pm', c', ctv, rfl, ?_⟩) (st.trans st2) (.ptr f)⟩
    rw [hX.cl cl hcl, hX.qual]⟩, sl, hk, k⟩
/-- lambdas one after another: what is owned behind them -/
def LamW (cl : List (Str × Addr)) (q : Str) : List Expr → List D → OW → OW → Prop
  | [], ds, W, W' => ds = [] ∧ W' = W
  | e :: es, ds, W, W' => ∃ f w ds', LamV cl q e f w ∧ ds = .ptr f :: ds' ∧ LamW cl q es ds' ((f, w) :: W) W'
/-- a row of lambdas -/
def LamBs (sc : Scope) : List Expr → Prop
  | [] => True
  | e :: es => (∃ params body scope lpos, e = .Lambda params body scope lpos ∧ LamB sc scope params body) ∧ (∀ env, starEach (e :: es) env = (false, eval e env) :: starEach es env) ∧ LamBs sc es
theorem ear_lams {cl : List (Str × Addr)} (hcl : F.cl = some cl) (lt : LTab F) : ∀ (es : List Expr) (W : OW) (P : List D → OW → Prop), LamBs F.sc es → (∀ ds W', LamW cl (F.q ++ "<lambda>") es ds W W' → P ds W') → EAR F es Γ W P
  | [], W, P, _, hp => ear_nil (hp [] W ⟨rfl, rfl⟩)
  | e :: es, W, P, ⟨⟨params, body, scope, lpos, ee, lb⟩, hs, t⟩, hp => by
    subst ee
    exact ear_cons (evr_lam hcl lt lb fun f w hv => ear_lams hcl lt es _ _ t fun ds W' hw => hp _ _ ⟨f, w, ds, hv, rfl, hw⟩) hs
/-- a list display, its items made -/
theorem evr_lst {es : List Expr} {P : D → OW → Prop} (h : EAR F es Γ W (fun ds W' => ds.length ≤ 1000 ∧ ∀ q, P (.ptr q) ((q, .lst ds) :: W'))) : EVR F (.List es pos) Γ W P :=
  fun G H σ Q sl hk k => ⟨tLst (cA F es), fun X hX => pe_lst (cA_pa hX), h G H σ _ sl hk fun ds W1 vs G1 H1 ⟨hz, hp⟩ s1 rs => ⟨by rw [rs.1]; exact Nat.le_trans hz (by decide), fun q hq => k _ _ _ _ _ (hp q) (s1.trans (s1.hk.allocO hq rs)) (.ptr q)⟩⟩

end
/-! ### each told -/
/-- a(), a's value a lambda that is known -/
theorem act_known {X : Cx} {pins : List (Addr × Obj)} {σ : L2.St} {H : Hp} {s : Shared} {CXg : CXT} {Eg : XK} {Ng : List Str} {qg : Str} {sg : Scope} {g f c' : Addr} {cdg pm ctv : Value} {params : Arguments} {body : Expr} {scope : Scope} {k i : Nat} {a : Str} {pn : List (Addr × Obj)} {xe : Value → Shared → Prop} {W : WX} {E : XK} {tb : TE} {p1 p2 : Pos}
    (I : Inv X pins σ H s) (L : LamS X.env.scope scope)
    (hbind : bindArgs (PySem.W.kla_fn "<lambda>" (X.env.qual ++ "<lambda>") params body scope (cloFrom X.env.cells scope.names []) pm (.ref c') ctv) ⟨[], []⟩ = pure [])
    (tk : Takes ((cxOf CXg X.prog X.w X.K X.mg X.base Ng qg sg g cdg X.A X.stack s H Eg).tr pn xe) W) (hW : ∀ cls d σ' H', E cls d H' → W cls d σ' H') (hr : Room (k + 1) (X.A.deeper (envOfC qg sg s.heap.objs.size g cdg)))
    (hbody : ∀ (A : Around) (outer : List Env) (s : Shared) (H : Hp), Room k (A.deeper (lamEnv X scope s.heap.objs.size f c')) → PE (lamCx X A outer s H E scope f c') body tb)
    (hN : Ng[i]? = some a) (hv : Vis sg a) (hd : (a == ("__debug__" : Str)) = false) (hcd : (a == ("__classdict__" : Str)) = false) :
    PE ((cxOf CXg X.prog X.w X.K X.mg X.base Ng qg sg g cdg X.A X.stack s H Eg).tr pn xe) (.Call (.Name a p1) [] [] p2)
      (fun σZ HZ Q => σZ[i]? = some (some (.ref f)) ∧ HZ c' = some (CodeO c' (X.env.qual ++ "<lambda>")) ∧ HZ f = some (LamO f (X.env.qual ++ "<lambda>") params body scope (cloFrom X.env.cells scope.names []) pm c' ctv) ∧ tb σ HZ Q) := by
  refine ⟨fun pinsZ sZ σZ HZ Q IZ h => ?_⟩
  obtain ⟨hs, hc, hlo, ht⟩ := h
  refine wpAny_Call_Name_kw (thn ((pe_var (pos := p1) (i := i) hN hv hd hcd).run pinsZ sZ σZ HZ (fun v H1 => v = .ref f ∧ H1 = HZ) IZ ⟨.ref f, hs, rfl, rfl⟩) fun u s1 ⟨v, H1, I1, r1, q1⟩ => ?_)
  obtain ⟨ev, eH⟩ := q1
  subst ev
  rw [eH] at I1
  obtain rfl : u = Value.ref f := r1
  have of1 : s1.heap.get? f = some (PySem.W.kla_obj "<lambda>" (X.env.qual ++ "<lambda>") params body scope (cloFrom X.env.cells scope.names []) pm c' ctv) := (I1.hok f _ hlo).1
  refine PySem.W.callWith_F0 ⟨_, _, _, _, of1⟩ ?_
  have un : Un (frs X.stack) [] H HZ s.heap s1.heap := I1.base
  obtain ⟨⟨oc, vs, t, hoc, hdc, hvc⟩, _, _⟩ := I1.hok c' _ hc
  have rc : codeAny (model X.prog X.w) (X.A.deeper (envOfC qg sg s.heap.objs.size g cdg)) (.call (.ref f) ⟨[], []⟩) (CR (L2.CX X.prog X.w) (envOfC qg sg s.heap.objs.size g cdg :: X.stack) X.prog X.w HZ s1 Q E) s1 := by
    refine PySem.W.kla_callFunE hr.depth of1 rfl L.co L.gen rfl ⟨c', oc, vs, t, rfl, hoc, hdc, hvc⟩ ?_
    rw [hbind]
    refine wpAny_pure (wpAny_newFunctionEnv (fun y hy => (L.own y hy).2) (fun y hy => absurd hy (by simp)) (fun h₁ hns hsb => ⟨I1.nolimit.fresh _ hsb, ?_⟩) L.kind)
    show codeAny _ _ (.expr body (lamEnv X scope s1.heap.objs.size f c')) _ _
    have kp : ∀ b o, s1.heap.get? b = some o → h₁.get? b = some o := fun b o e => hsb.extBut b o (Nat.ne_of_lt (Heap.lt_size e)) (Heap.get?_push_of_some _ e)
    have J : Inv (lamCx X (X.A.deeper (envOfC qg sg s.heap.objs.size g cdg)) (envOfC qg sg s.heap.objs.size g cdg :: X.stack) s1 HZ E scope f c') [] σ HZ { s1 with heap := h₁, toks := s1.toks + ([] : List (Str × Value)).length } :=
      lam_start2 I L I1.env0 hr.hd un hns kp
    refine PySem.W.kla_codeExpr (wpAny_mono ((hbody _ _ s1 HZ (hr.deeper _)).run [] _ _ HZ Q J ht) (fun v s' hq => ?_) fun e s' hq => hq)
    obtain ⟨w', H', J', rv, q⟩ := hq
    exact ⟨w', H', J'.os, J'.bare, J'.base, J'.hok, rv, q⟩
  have hx : Passes (L2.CX X.prog X.w) ((cxOf CXg X.prog X.w X.K X.mg X.base Ng qg sg g cdg X.A X.stack s H Eg).tr pn xe) E := passes_call tk hW
  refine wpAny_call (codeAny_mono rc fun r s' hq => ?_)
  cases r with
  | error e => exact hx pinsZ σZ HZ s1 e s' I1 hq
  | ok fl =>
    cases fl with
    | ret u => exact I1.after hq
    | next => exact False.elim hq
    | brk => exact False.elim hq
    | cont => exact False.elim hq
/-- a lambda whose telling is known -/
structure BadL (F : CF) (CS : Addr) (Γ : Ga) (W : OW) (e : Expr) : Prop where
  ex : ∃ pa bd sc lp, e = .Lambda pa bd sc lp ∧ LamB F.sc sc pa bd ∧ ∃ c, PySem.W.exmOne F.K (.ref c) (.ref CS) = some true ∧ ∀ cd E, EV (F.lam sc cd E) bd Γ W (.er c) W
section
variable {F : CF} {Γ : Ga} {W W1 : OW}
/-- told(f), in a comprehension's block: f a lambda that the def made -/
theorem bad_pe {X : Cx} {pins : List (Addr × Obj)} {σ : L2.St} {H0 : Hp} {s0 : Shared} {scope : Scope} {C : Addr} {cl : List (Str × Addr)} {fp : List Addr} {x y : Str} {j : Nat} {CS : Addr} {ret : Str} {p1 p2 p3 : Pos} (hX : Sat F X) (T : Told F.P F.w F.K F.mg x CS ret) (hk2 : 2 ≤ F.k) (hgx : (relS scope F.sc).names.lookup x = some .globalImplicit)
    (hj : F.N[j]? = some y) (hy : VisS (relS scope F.sc) y) (hd : (y == ("__debug__" : Str)) = false) (hcd : (y == ("__classdict__" : Str)) = false) (hdb : (x == ("__debug__" : Str)) = false) (I0 : Inv X pins σ H0 s0) (f0 : ∀ b ∈ fp, FpOk X pins H0 b) :
    PE (X.blk s0 H0 scope (compEnvC scope cl C X.env) fp) (.Call (.Name x p1) [.Name y p2] [] p3)
      (fun σ1 H1 Q => ∃ (f : Addr) (G : Hp) (e : Expr) (w : AO), σ1[j]? = some (some (.ref f)) ∧ Slots F.K G Γ σ ∧ Hk F.K F.T G W H1 ∧ (f, w) ∈ W ∧ LamV X.env.cells (F.q ++ "<lambda>") e f w ∧ BadL F CS Γ W e ∧ ∀ G' H', Step F.K F.T G W H1 G' W H' → Q (.str ret) H') := by
  refine ⟨fun pins' s1 σ1 H1 Q IY ⟨f, G, e, w, hs, sl, hk, hw, hv, bl, k⟩ => ?_⟩
  obtain ⟨params, body, lsc, lpos, pm', c', ctv, e1, e2⟩ := hv
  obtain ⟨pa, bd, sc, lp, e3, lb, c, ex, hbd⟩ := bl.ex
  rw [e1] at e3
  injection e3 with z1 z2 z3 z4
  subst z1 z2 z3 z4 e2
  obtain ⟨gf, ob, ho, hro⟩ := hk.own _ hw
  obtain ⟨rfl, gc⟩ := hro.lam_inv
  have hco : H1 c' = some (CodeO c' (F.q ++ "<lambda>")) := hk.sub _ _ gc
  obtain ⟨g, a, er, pg, bg, sg, dV, kV, doc, pm, cdv, ct, oc, an, od, osl, Ng, jj, q1, q2, q3, q4, q5, q6, q7, q8, t1, t2, t3, t4, t5, t6, t7, t8, t9, t10, t11, t12, t13, t14, t15⟩ := T.ex
  subst t9
  have hr := hX.room
  rw [← hX.K] at t2 t3 t4 t5
  rw [← hX.mg] at t1 t11
  have L : LamS X.env.scope lsc := by rw [hX.sc]; exact lb.sc
  have hgl : Gl (X.blk s0 H0 scope (compEnvC scope cl C X.env) fp) x := by
    show (relS scope X.env.scope).names.lookup x = _
    rw [hX.sc]; exact hgx
  have hvis : Vis (relS scope X.env.scope) y := by rw [hX.sc]; exact hy
  refine wpAny_Call_Name_kw (ld_glob IY hgl t1 ?_ hdb)
  refine PySem.W.callWith_K (h₀ := X.base) I0.ok.mod.kin t2 ?_ (by rfl) (by rfl)
  show wpAny _ _ (spliced ((false, eval (.Name y p2) (compEnvC scope cl C X.env)) :: backTo p3 (starEach [] (compEnvC scope cl C X.env)))) _ _ s1
  refine Calls.spliced_cons (thn ((pe_var (X := X.blk s0 H0 scope (compEnvC scope cl C X.env) fp) (pos := p2) (i := j) (by show X.N[j]? = _; rw [hX.N]; exact hj) hvis hd hcd).run pins' s1 σ1 H1 (fun v H2 => v = .ref f ∧ H2 = H1) IY ⟨.ref f, hs, rfl, rfl⟩) fun u s2 ⟨v, H2, I2, r2, ev, eH⟩ => ?_)
  subst ev
  subst eH
  obtain rfl : u = Value.ref f := r2
  refine Calls.spliced_nil ⟨I2.kIn, ?_⟩
  have IX : Inv X pins σ H2 s2 := I0.call' (ch := fp) I2.os I2.base I2.hok I2.bare fun b hb => ⟨(f0 b hb).2.2.2.1, (f0 b hb).2.1, (f0 b hb).2.2.2.2.1, (f0 b hb).2.2.2.2.2⟩
  have eq : F.q ++ "<lambda>" = X.env.qual ++ "<lambda>" := by rw [hX.qual]
  rw [eq] at hco ho
  have rc : codeAny (model X.prog X.w) X.A (.call (.ref g) ⟨[.ref f], []⟩) (CR C8.CX0 X.stack X.prog X.w H2 s2 Q C8.E0) s2 := by
    refine run_ofS (k := F.k - 1) (N := Ng) (ps := [a]) (us := [.ref f]) (vs := [.ref f]) t3 t4 t6 (hr.mono (by omega)) IX.env0 (t5 s2 [.ref f] IX.kIn rfl) (.cons rfl .nil) rfl fun hr' => ?_
    have hr2 : Room (F.k - 2 + 1) (X.A.deeper (envOfC x sg s2.heap.objs.size g cdv)) := hr'.mono (by omega)
    obtain ⟨t', ht', hq'⟩ := told_gives (X := X) (Ng := Ng) (x := x) (a := a) (q := X.env.qual ++ "<lambda>") (ret := ret) (sg := sg) (g := g) (cdg := cdv) (j := jj) (p1 := q1) (p2 := q2) (p3 := q3) (p4 := q4) (p5 := q5) (p6 := q6) (p7 := q7) (p8 := q8) t10 t11 t12 t15 f c' s2 H2 Q
      (fun E H' Q' => H' f = some (LamO f (X.env.qual ++ "<lambda>") params body lsc (cloFrom X.env.cells lsc.names []) pm' c' ctv) ∧ cE (F.lam lsc (.ref c') E) body σ H' Q')
      (fun W pn xe E r1 r2 tk hW => act_known (i := 0) IX L (lb.bind _ _ _ _ _) tk hW hr2 (fun A outer s H hr3 => cE_pe (lam_sat hX hr3)) t7 t8 t13 t14) hco
      ⟨ho, hbd _ _ G H2 σ Q sl hk fun G' H' s3 => ⟨true, by rw [hX.K]; exact ex, fun _ => k G' H' s3, fun z => by cases z⟩⟩
    exact ⟨t', ht'.nox, hq'⟩
  refine wpAny_call (codeAny_mono rc fun r s3 hq => ?_)
  cases r with
  | error e => exact (show False from hq).elim
  | ok fl =>
    cases fl with
    | ret u => exact I2.after hq
    | next => exact False.elim hq
    | brk => exact False.elim hq
    | cont => exact False.elim hq

theorem en_bad {x y bl : Str} {jb j ib jn j1 : Nat} {b CS : Addr} {ret : Str} {ds : List D} {cl : List (Str × Addr)} {scope : Scope} {pos p0 p1 p2 p3 p4 p5 p6 p7 : Pos} (T : Told F.P F.w F.K F.mg x CS ret) (hk2 : 2 ≤ F.k) (hcl : F.cl = some cl) (hN : F.N.Nodup) (ok : blkC F.N F.sc scope [(y, j)] = true)
    (hjb : F.N[jb]? = some bl) (hvb : VisS F.sc bl) (hΓ : Γ[jb]? = some (some (.ptr b))) (hW : W[ib]? = some (b, .lst ds)) (hz : ds.length < sizeLine) (hds : ∀ (i : Nat) (d : D), ds[i]? = some d → ∃ (f : Addr) (e : Expr) (w : AO), d = D.ptr f ∧ (f, w) ∈ W ∧ LamV cl (F.q ++ "<lambda>") e f w ∧ BadL F CS Γ W e)
    (hgx : (relS scope F.sc).names.lookup x = some .globalImplicit) (hj : F.N[j]? = some y) (hyl : (relS scope F.sc).names.lookup y = some .local) (hd : (y == ("__debug__" : Str)) = false := by decide) (hcd : (y == ("__classdict__" : Str)) = false := by decide) (hdb : (x == ("__debug__" : Str)) = false := by decide)
    (hd2 : (bl == ("__debug__" : Str)) = false := by decide) (hcd2 : (bl == ("__classdict__" : Str)) = false := by decide) :
    EN F (.ListComp (.Constant (.int 1) j1 p0) [⟨.Name y p1, .Name bl p2, [.Compare (.Call (.Name x p3) [.Name y p4] [] p5) [.NotEq] [.Constant (.str ret) jn p6] p7], 0⟩] scope pos) Γ W [] W :=
  fun G H σ Q sl hk k => ⟨fun σ H Q => Slots F.K G Γ σ ∧ Hk F.K F.T G W H ∧ (∀ p G' H', H p = none → Step F.K F.T G W H G' ((p, .lst []) :: W) H' → Q (.ref p) H'), fun X hX => ⟨fun pins s σ H Q I ⟨sl, hk, k⟩ => by
    have hcx := hX.cl cl hcl
    have hN' : X.N.Nodup := by rw [hX.N]; exact hN
    have okX : BlkOk X.N X.env.scope scope [(y, j)] := blkOk_by (by rw [hX.N, hX.sc]; exact ok)
    refine lc_known (own := [(y, j)]) hX.calm hN' I (cI_pi (tg := .Name y p1) (iter := .Name bl p2) hX) okX (fun s H C cl fp => cG_pg (S := SatG (F.blk scope)) ⟨hX.blk scope s H C cl fp, hN'⟩)
      (fun s H C cl fp I0 f0 => pts_one (pt_cmpR op_ne (bad_pe (Γ := Γ) (W := W) hX T hk2 hgx hj (.inl hyl) hd hcd hdb I0 f0) pe_str (nobehind _ (by decide) (by decide)))) (fun s H C cl fp => pe_int) (fun _ => rfl) ?_
    refine (ei_list (F := F) (tg := .Name y p1) (ds := ds) (ev_var (pos := p2) jb hjb hvb hΓ hd2 hcd2) (.own ib hW)) G H σ _ sl hk fun J G1 H1 s1 wl D hD => ?_
    have nD : ∀ o, (D, o) ∉ W := fun o z => by
      obtain ⟨_, u, e, _⟩ := s1.hk.own _ z
      have e : H1 D = some u := e
      rw [hD] at e; cases e
    refine ⟨fun i m H' => m = ds.length - i ∧ i ≤ ds.length ∧ H' D = some (.lst []) ∧ ∃ G', Step F.K F.T G W H G' ((D, .lst []) :: W) H' ∧ Le G1 G', ⟨ds.length, by simp, Nat.zero_le _, upd_same, G1, s1.trans (s1.hk.allocO (w := .lst []) (o := .lst []) hD Rps.nil), .refl _⟩, ?_⟩
    rintro i m H' ⟨rfl, hil, eD, G', st, le⟩
    have hkW : Hk F.K F.T G' W H' := st.hk.less (List.sublist_cons_self _ _)
    obtain ⟨w1, w2⟩ := wl G' W H' le hkW (.own ib hW) i
    by_cases hlt : i < ds.length
    · have hget : ds[i]? = some ds[i] := List.getElem?_eq_getElem hlt
      obtain ⟨go, w3⟩ := w1 ds[i] hget
      obtain ⟨f, e, w, ed, hw, hv, hbl⟩ := hds i ds[i] hget
      refine .inr ⟨go, fun H2 => H2 D = some (.lst []) ∧ ∃ G2, Step F.K F.T G W H G2 ((D, .lst []) :: W) H2 ∧ Le G1 G2, fun H2 q => ⟨ds.length - (i + 1), by omega, rfl, hlt, q⟩, fun z H2 yl => ?_⟩
      obtain ⟨s3, y3⟩ := w3 z H2 yl
      rw [ed] at y3
      have ez : z = .ref f := by
        rcases y3 with r | ⟨t, vs, ds', _, _, e', _⟩
        · exact r.ptr_inv
        · cases e'
      subst ez
      have hjl : j < σ.length := by
        rw [I.len, hX.N]
        exact (List.getElem?_eq_some_iff.mp hj).1
      refine (eg_name (F := F.blk scope) (S := SatG (F.blk scope)) (fun X h => h) (pos := p1) (d := .ptr f) j hj (.inl hyl)) G' H2 (.ref f) (wipe σ [j]) _ ((sl.mono (s1.le.trans le)).wipe [j]) s3.hk.sub (.inl (.ptr f)) fun σ2 sl2 bt => ⟨wipe_but (vs := [j]) bt fun t ht => ht, ?_⟩
      have hs2 : σ2[j]? = some (some (.ref f)) := by
        obtain ⟨v, ev, rv⟩ := sl2.2 j (.ptr f) (by
          rw [List.getElem?_set_self]
          show j < (wipeG Γ [j]).length
          rw [wipeG_length, sl.1]; exact hjl)
        rw [ev, rv.ptr_inv]
      have st3 := st.trans (s3.more (W2 := [(D, .lst [])]) (st.hk.perm (List.perm_append_comm (l₁ := [(D, AO.lst [])]) (l₂ := W))) |>.perm (List.perm_append_comm (l₁ := W) (l₂ := [(D, AO.lst [])])) (List.perm_append_comm (l₁ := W) (l₂ := [(D, AO.lst [])])))
      refine ⟨f, G', e, w, hs2, sl.mono (s1.le.trans le), s3.hk, hw, hcx ▸ hv, hbl, fun G4 H4 s4 => ?_⟩
      have st4 := st3.trans (s4.more (W2 := [(D, .lst [])]) (st3.hk.perm (List.perm_append_comm (l₁ := [(D, AO.lst [])]) (l₂ := W))) |>.perm (List.perm_append_comm (l₁ := W) (l₂ := [(D, AO.lst [])])) (List.perm_append_comm (l₁ := W) (l₂ := [(D, AO.lst [])])))
      refine ⟨rfl, false, ?_, ?_⟩
      · simp
      · dsimp only
        rw [if_neg Bool.false_ne_true]
        obtain ⟨_, u, e5, r5⟩ := st4.hk.own _ List.mem_cons_self
        obtain ⟨vs, rfl, r5⟩ := r5.lst_inv
        rw [r5.inv0] at e5
        exact ⟨e5, G4, st4, le.trans s4.le⟩
    · have e : i = ds.length := by omega
      subst e
      exact .inl ⟨w2 (Nat.le_refl _), k D G' H' (s1.back hD) st⟩⟩, sl, hk, k⟩
end
end Sh
set_option Elab.async false
set_option linter.all false
set_option maxRecDepth 100000
set_option maxHeartbeats 1000000
set_option autoImplicit false
/-! ShR: comprehensions and generator expressions that change nothing, by a function of the item. -/
namespace Sh
open PySem PySem.Spec PyProof.Rows L2
section
variable {F : CF} {Γ : Ga} {W W1 : OW} {pos : Pos} {tg iter elt : Expr} {ifs : List Expr} {scope : Scope} {own : List (Str × Nat)} {ds : List D} {Wk : OW → Prop}
/-- one turn: the item's image, or none -/
def TurnF (F : CF) (tg : Expr) (ifs : List Expr) (elt : Expr) (vs : List Nat) (Γ0 : Ga) (W : OW) (d : D) (y : Option D) : Prop :=
  ∃ Γ1 ts, EG F (SatG F) tg Γ0 d Γ1 ts ∧ (∀ t ∈ ts, t ∈ vs) ∧ ∃ r, ETs F ifs Γ1 W r W ∧ (r = true → ∃ z, EV F elt Γ1 W (.ok z) W ∧ y = some z) ∧ (r = false → y = none)
theorem TurnF.one {F : CF} {vs : List Nat} {Γ0 : Ga} {d : D} {y : Option D} {i : Nat} (h : TurnF F tg ifs elt vs Γ0 W d y) (hd : ds[i]? = some d) (f : D → Option D) (e : f d = y) : Turn1 F tg ifs elt vs Γ0 d W ((ds.take i).filterMap f) W ((ds.take (i + 1)).filterMap f) := by
  obtain ⟨Γ1, ts, h1, h2, r, h3, h4, h5⟩ := h
  have et : (ds.take (i + 1)).filterMap f = (ds.take i).filterMap f ++ (f d).toList := by
    rw [List.take_add_one, hd, List.filterMap_append]
    cases e2 : f d with
    | none => simp [List.filterMap_cons, e2]
    | some z => simp [List.filterMap_cons, e2]
  refine ⟨Γ1, ts, h1, h2, r, W, h3, fun q => ?_, fun q => ⟨rfl, ?_⟩⟩
  · obtain ⟨z, h6, h7⟩ := h4 q
    exact ⟨z, h6, by rw [et, e, h7]; rfl⟩
  · rw [et, e, h5 q]
    exact List.append_nil _
/-- no test -/
theorem turn_map {F : CF} {vs : List Nat} {Γ0 Γ1 : Ga} {d z : D} {ts : List Nat} (h1 : EG F (SatG F) tg Γ0 d Γ1 ts) (h2 : ∀ t ∈ ts, t ∈ vs) (h3 : EV F elt Γ1 W (.ok z) W) : TurnF F tg [] elt vs Γ0 W d (some z) :=
  ⟨Γ1, ts, h1, h2, true, ets_nil, fun _ => ⟨z, h3, rfl⟩, fun q => by cases q⟩
/-- one test -/
theorem turn_if {F : CF} {vs : List Nat} {Γ0 Γ1 : Ga} {d z : D} {ts : List Nat} {c : Expr} {r : Bool} (h1 : EG F (SatG F) tg Γ0 d Γ1 ts) (h2 : ∀ t ∈ ts, t ∈ vs) (hc : ET F c Γ1 W (.ok r) W) (h3 : r = true → EV F elt Γ1 W (.ok z) W) : TurnF F tg [c] elt vs Γ0 W d (if r then some z else none) :=
  ⟨Γ1, ts, h1, h2, r, ets_one hc, fun q => ⟨z, h3 q, by rw [q]; rfl⟩, fun q => by rw [q]; rfl⟩
theorem en_lcF (f : D → Option D) (hN : F.N.Nodup) (ok : blkC F.N F.sc scope own = true) (hi : EI F tg iter Γ W ds Wk W1) (hwk : Wk W1) (hs : ∀ d ∈ ds, TurnF (F.blk scope) tg ifs elt (own.map (·.2)) (wipeG Γ (own.map (·.2))) W1 d (f d)) (hz : ds.length < sizeLine) (hf : ∀ env x, foldedSetIterable iter env x = pure x := by intro _ _; rfl) :
    EN F (.ListComp elt [⟨tg, iter, ifs, 0⟩] scope pos) Γ W (ds.filterMap f) W1 := by
  have := en_lc (pos := pos) hN ok hi (fun i => (ds.take i).filterMap f) (fun _ => W1) rfl rfl (fun _ _ => hwk) (fun i d hd => (hs d (List.mem_of_getElem? hd)).one hd f rfl) hz hf
  rw [List.take_length] at this
  exact this
theorem en_lcM (g : D → D) (hN : F.N.Nodup) (ok : blkC F.N F.sc scope own = true) (hi : EI F tg iter Γ W ds Wk W1) (hwk : Wk W1) (hs : ∀ d ∈ ds, TurnF (F.blk scope) tg ifs elt (own.map (·.2)) (wipeG Γ (own.map (·.2))) W1 d (some (g d))) (hz : ds.length < sizeLine) (hf : ∀ env x, foldedSetIterable iter env x = pure x := by intro _ _; rfl) :
    EN F (.ListComp elt [⟨tg, iter, ifs, 0⟩] scope pos) Γ W (ds.map g) W1 :=
  (en_lcF (fun d => some (g d)) hN ok hi hwk hs hz hf).to (by simp [List.filterMap_eq_map])
theorem gen_hF (f : D → Option D) {gpos : Pos} (gt : GTab F) (hk2 : 3 ≤ F.k) (hN : F.N.Nodup) (ok : blkC F.N F.sc scope own = true) (gk : GScp scope) (hi : EI F tg iter Γ W ds Wk W1) (hwk : Wk W1) (hs : ∀ cd d, d ∈ ds → TurnF (F.gen scope cd) tg ifs elt (own.map (·.2)) (wipeG Γ (own.map (·.2))) W1 d (f d)) (hf : ∀ env v, genFold iter env v = pure v := by intro _ _; rfl) :
    GenH F (.GeneratorExp elt [⟨tg, iter, ifs, 0⟩] scope gpos) Γ W (ds.filterMap f) W1 := by
  have := gen_h (gpos := gpos) (fun i => (ds.take i).filterMap f) gt hk2 hN ok gk hi hwk rfl (fun cd i d hd => (hs cd d (List.mem_of_getElem? hd)).one hd f rfl) hf
  rw [List.take_length] at this
  exact this
theorem gen_hM (g : D → D) {gpos : Pos} (gt : GTab F) (hk2 : 3 ≤ F.k) (hN : F.N.Nodup) (ok : blkC F.N F.sc scope own = true) (gk : GScp scope) (hi : EI F tg iter Γ W ds Wk W1) (hwk : Wk W1) (hs : ∀ cd d, d ∈ ds → TurnF (F.gen scope cd) tg ifs elt (own.map (·.2)) (wipeG Γ (own.map (·.2))) W1 d (some (g d))) (hf : ∀ env v, genFold iter env v = pure v := by intro _ _; rfl) :
    GenH F (.GeneratorExp elt [⟨tg, iter, ifs, 0⟩] scope gpos) Γ W (ds.map g) W1 := by
  have := gen_hF (gpos := gpos) (fun d => some (g d)) gt hk2 hN ok gk hi hwk hs hf
  rwa [show ds.filterMap (fun d => some (g d)) = ds.map g by simp [List.filterMap_eq_map]] at this
/-- dict comprehensions: the keys' function -/
theorem en_dcM {kx vx : Expr} (kf : D → Key) (vf : D → D) (hN : F.N.Nodup) (ok : blkC F.N F.sc scope own = true) (hi : EI F tg iter Γ W ds Wk W1) (hwk : Wk W1)
    (hs : ∀ d ∈ ds, ∃ Γ1 ts, EG (F.blk scope) (SatG (F.blk scope)) tg (wipeG Γ (own.map (·.2))) d Γ1 ts ∧ (∀ t ∈ ts, t ∈ own.map (·.2)) ∧ EV (F.blk scope) kx Γ1 W1 (.ok (kD (kf d))) W1 ∧ EV (F.blk scope) vx Γ1 W1 (.ok (vf d)) W1) (hz : ds.length < sizeLine) (hf : ∀ env x, foldedSetIterable iter env x = pure x := by intro _ _; rfl) :
    END F (.DictComp kx vx [⟨tg, iter, [], 0⟩] scope pos) Γ W (ds.foldl (fun a d => putD a (kf d) (vf d)) []) W1 := by
  have := en_dc (pos := pos) (kx := kx) (vx := vx) hN ok hi hwk (fun i => (ds.take i).foldl (fun a d => putD a (kf d) (vf d)) []) rfl (fun i d hd => by
    obtain ⟨Γ1, ts, h1, h2, h3, h4⟩ := hs d (List.mem_of_getElem? hd)
    refine ⟨Γ1, ts, h1, h2, true, ets_nil, fun _ => ⟨kf d, vf d, h3, h4, ?_⟩, fun q => by cases q⟩
    rw [List.take_add_one, hd, List.foldl_append]
    rfl) hz hf
  rw [List.take_length] at this
  exact this
end
end Sh
set_option Elab.async false
set_option linter.all false
set_option maxRecDepth 100000
set_option maxHeartbeats 1000000
set_option autoImplicit false
/-! ShT: rows that are lists or tuples; texts in them. -/
namespace Sh
open PySem PySem.Spec PyProof.Rows L2
/-- a row: a list or a tuple -/
def SeqF (d : D) (ds : List D) : Prop := d = .lst ds ∨ d = .tup ds
theorem SeqF.lst {ds : List D} : SeqF (.lst ds) ds := .inl rfl
theorem SeqF.tup {ds : List D} : SeqF (.tup ds) ds := .inr rfl
theorem SeqF.len {d : D} {ds : List D} (h : SeqF d ds) (W : OW) : LenD W d ds.length := by
  rcases h with rfl | rfl
  · exact .lst .lst
  · exact .tup ds
theorem SeqF.ix {d : D} {ds : List D} (h : SeqF d ds) {W : OW} {i : Int} {x : D} (e : L2.atI ds i = some x) : IxD W d (.int i) x := by
  rcases h with rfl | rfl
  · exact .lst .lst e
  · exact .tup e
theorem SeqF.q {d : D} {ds : List D} (h : SeqF d ds) (W : OW) : SeqD W d ds := by
  rcases h with rfl | rfl
  · exact .lst .lst
  · exact .tup ds
/-- texts as data -/
theorem py_strs {W : OW} (zs : List Str) (i : Nat) (d : D) (p : PyData) (h1 : (zs.map D.str)[i]? = some d) (h2 : (zs.map PyData.str)[i]? = some p) : Py W d p := by
  rw [List.getElem?_map] at h1 h2
  cases e : zs[i]? with
  | none => rw [e] at h1; cases h1
  | some z =>
    rw [e] at h1 h2
    cases h1
    cases h2
    exact .str z
theorem py_ints {W : OW} (zs : List Int) (i : Nat) (d : D) (p : PyData) (h1 : (zs.map D.int)[i]? = some d) (h2 : (zs.map PyData.int)[i]? = some p) : Py W d p := by
  rw [List.getElem?_map] at h1 h2
  cases e : zs[i]? with
  | none => rw [e] at h1; cases h1
  | some z =>
    rw [e] at h1 h2
    cases h1
    cases h2
    exact .int z
theorem Py.strsL {W : OW} (zs : List Str) : Py W (.lst (zs.map .str)) (.list (zs.map .str)) := .lst (by simp) (py_strs zs)
theorem Py.strsT {W : OW} (zs : List Str) : Py W (.tup (zs.map .str)) (.tuple (zs.map .str)) := .tup (by simp) (py_strs zs)
theorem Py.intsL {W : OW} (zs : List Int) : Py W (.lst (zs.map .int)) (.list (zs.map .int)) := .lst (by simp) (py_ints zs)
theorem Py.intsT {W : OW} (zs : List Int) : Py W (.tup (zs.map .int)) (.tuple (zs.map .int)) := .tup (by simp) (py_ints zs)

/-- plain things as data: == is equality -/
structure Enc {α : Type} [DecidableEq α] (ok : α → Prop) (enc : α → PyData) (n : Nat) : Prop where
  lay : ∀ a, ok a → (enc a).canLay0 = true
  dep : ∀ a, (enc a).depth ≤ n
  eq : ∀ a b, PyData.eqv (enc a) (enc b) = decide (a = b)
theorem enc_int : Enc (fun _ : Int => True) PyData.int 0 := ⟨fun _ _ => by simp only [PyData.canLay0], fun _ => by simp only [PyData.depth]; exact Nat.le_refl _, fun a b => by simp only [PyData.eqv]; rfl⟩
theorem enc_str : Enc (fun z : Str => PyData.strOk z = true) PyData.str 0 := ⟨fun _ h => by simp only [PyData.canLay0]; exact h, fun _ => by simp only [PyData.depth]; exact Nat.le_refl _, fun a b => by simp only [PyData.eqv]; rfl⟩
section
variable {α : Type} [DecidableEq α] {ok : α → Prop} {enc : α → PyData} {n : Nat}
theorem Enc.layAll (E : Enc ok enc n) : ∀ xs : List α, (∀ x ∈ xs, ok x) → PyData.canLayAll0 (xs.map enc) = true
  | [], _ => by rw [List.map_nil, PyData.canLayAll0]
  | x :: xs, h => by rw [List.map_cons, PyData.canLayAll0, E.lay x (h x List.mem_cons_self), E.layAll xs fun y hy => h y (List.mem_cons_of_mem _ hy)]; rfl
theorem Enc.depAll (E : Enc ok enc n) : ∀ xs : List α, PyData.depthAll (xs.map enc) ≤ n
  | [] => by rw [List.map_nil, PyData.depthAll]; exact Nat.zero_le _
  | x :: xs => by rw [List.map_cons, PyData.depthAll]; exact Nat.max_le.mpr ⟨E.dep x, E.depAll xs⟩
theorem Enc.eqAll (E : Enc ok enc n) : ∀ xs ys : List α, PyData.eqvAll (xs.map enc) (ys.map enc) = decide (xs = ys)
  | [], [] => by simp [PyData.eqvAll]
  | [], _ :: _ => by simp [PyData.eqvAll]
  | _ :: _, [] => by simp [PyData.eqvAll]
  | x :: xs, y :: ys => by
    rw [List.map_cons, List.map_cons, PyData.eqvAll, E.eq, E.eqAll xs ys]
    by_cases h1 : x = y
    · by_cases h2 : xs = ys
      · simp [h1, h2]
      · simp [h1, h2]
    · simp [h1]
theorem Enc.list (E : Enc ok enc n) : Enc (fun xs : List α => ∀ x ∈ xs, ok x) (fun xs => .list (xs.map enc)) (n + 1) :=
  ⟨fun xs h => by rw [PyData.canLay0]; exact E.layAll xs h, fun xs => by rw [PyData.depth]; exact Nat.succ_le_succ (E.depAll xs), fun xs ys => by rw [PyData.eqv]; exact E.eqAll xs ys⟩
theorem Enc.tup (E : Enc ok enc n) : Enc (fun xs : List α => ∀ x ∈ xs, ok x) (fun xs => .tuple (xs.map enc)) (n + 1) :=
  ⟨fun xs h => by rw [PyData.canLay0]; exact E.layAll xs h, fun xs => by rw [PyData.depth]; exact Nat.succ_le_succ (E.depAll xs), fun xs ys => by rw [PyData.eqv]; exact E.eqAll xs ys⟩
theorem Enc.shaped (E : Enc ok enc n) (hn : n ≤ 64) {a : α} (h : ok a) : SeqAt.shaped (enc a) = true := by
  unfold SeqAt.shaped
  rw [E.lay a h]
  exact decide_eq_true (Nat.le_trans (E.dep a) hn)
theorem Enc.any (E : Enc ok enc n) (xs : List α) (x : α) : ((xs.map enc).any fun q => PyData.eqv q (enc x)) = decide (x ∈ xs) := by
  rw [List.any_map]
  rw [Bool.eq_iff_iff, List.any_eq_true, decide_eq_true_iff]
  constructor
  · rintro ⟨y, hy, e⟩
    have : y = x := of_decide_eq_true ((E.eq y x) ▸ e)
    exact this ▸ hy
  · exact fun h => ⟨x, h, by show PyData.eqv (enc x) (enc x) = true; rw [E.eq]; exact decide_eq_true rfl⟩
end
theorem shaped_str {z : Str} (h : PyData.strOk z = true) : SeqAt.shaped (.str z) = true := enc_str.shaped (by decide) h
theorem shaped_strsL {zs : List Str} (h : ∀ z ∈ zs, PyData.strOk z = true) : SeqAt.shaped (.list (zs.map .str)) = true := enc_str.list.shaped (by decide) h
theorem shaped_strsT {zs : List Str} (h : ∀ z ∈ zs, PyData.strOk z = true) : SeqAt.shaped (.tuple (zs.map .str)) = true := enc_str.tup.shaped (by decide) h
theorem shaped_intsL (zs : List Int) : SeqAt.shaped (.list (zs.map .int)) = true := enc_int.list.shaped (by decide) fun _ _ => trivial
theorem shaped_intsT (zs : List Int) : SeqAt.shaped (.tuple (zs.map .int)) = true := enc_int.tup.shaped (by decide) fun _ _ => trivial
/-- the first place of x -/
theorem idx_first {α : Type} [DecidableEq α] {xs : List α} {x : α} (h : x ∈ xs) : xs[xs.idxOf x]? = some x ∧ ∀ m y, m < xs.idxOf x → xs[m]? = some y → y ≠ x := by
  have hl := List.idxOf_lt_length_of_mem h
  refine ⟨by rw [List.getElem?_eq_getElem hl, List.getElem_idxOf], fun m y hm hy => ?_⟩
  obtain ⟨hm2, e⟩ := List.getElem?_eq_some_iff.mp hy
  rw [← e]
  exact beq_eq_false_iff_ne.mp (List.not_of_lt_findIdx hm)
section
variable {F : CF} {Γ : Ga} {W W1 : OW} {pos p : Pos} {e : Expr} {d : D} {ds : List D}
theorem ei_seq {tg : Expr} (h : EV F e Γ W (.ok d) W1) (hd : SeqF d ds) : EI F tg e Γ W ds (fun _ => True) W1 := by
  rcases hd with rfl | rfl
  · exact fun G H σ R sl hk k => ei_list h .lst G H σ R sl hk fun J G' H' s wl => k J G' H' s fun G2 W2 H2 le hk2 _ => wl G2 W2 H2 le hk2 .lst
  · exact ei_tup h
/-- row.index(z) -/
theorem ev_indexS {a : Expr} {W2 : OW} {zs : List Str} {z : Str} {apos : Pos} (ho : EV F a Γ W (.ok d) W1) (hd : SeqF d (zs.map .str)) (ha : EV F e Γ W1 (.ok (.str z)) W2) (hz : ∀ y ∈ zs, PyData.strOk y = true) (hm : z ∈ zs)
    (hbase : ∀ env, attributeBase a "index" env (eval a env) = eval a env := by intro _; rfl)
    (hfew : ∀ env, ((backTo pos (starEach [e] env)).all (fun x => !x.1) && (backToKw pos (keywordEach [] env)).all (fun x => x.1.isSome) && decide ([e].length + ([] : List Keyword).length + (if ([] : List Keyword).isEmpty then 0 else 1) < 30)) = true := by intro _; rfl)
    (hline : (apos.endLine == pos.line) = true := by rfl) (hs : ∀ env, starEach [e] env = (false, eval e env) :: starEach [] env := by intro _; rfl) : EV F (.Call (.Attribute a "index" apos) [e] [] pos) Γ W (.ok (.int (zs.idxOf z : Nat))) W2 := by
  obtain ⟨h1, h2⟩ := idx_first hm
  have hq : (zs.map PyData.str)[zs.idxOf z]? = some (.str z) := by rw [List.getElem?_map, h1]; rfl
  have hn : ∀ (m : Nat) (q : PyData), m < zs.idxOf z → (zs.map PyData.str)[m]? = some q → PyData.eqv q (.str z) = false := fun m q hm hq => by
    rw [List.getElem?_map] at hq
    cases e : zs[m]? with
    | none => rw [e] at hq; cases hq
    | some y =>
      rw [e] at hq
      cases hq
      rw [enc_str.eq]
      exact decide_eq_false (h2 m y hm e)
  have he : PyData.eqv (.str z) (.str z) = true := by rw [enc_str.eq]; exact decide_eq_true rfl
  rcases hd with rfl | rfl
  · exact ev_lindex ho ha .lst (Py.strsL zs) (.str z) (shaped_strsL hz) (shaped_str (hz z hm)) hq he hn hbase hfew hline hs
  · exact ev_tindex ho ha (Py.strsT zs) (.str z) (shaped_strsT hz) (shaped_str (hz z hm)) hq he hn hbase hfew hline hs
/-- z in row -/
theorem SeqF.inS {W : OW} {zs : List Str} {z : Str} (hd : SeqF d (zs.map .str)) (hz : ∀ y ∈ zs, PyData.strOk y = true) (h : PyData.strOk z = true) : CmpR W .In (.str z) d (decide (z ∈ zs)) := by
  rcases hd with rfl | rfl
  · exact .inL (.str z) (Py.strsL zs) (shaped_str h) (shaped_strsL hz) (enc_str.any zs z)
  · exact .inT (.str z) (Py.strsT zs) (shaped_str h) (shaped_strsT hz) (enc_str.any zs z)
/-- tuple(row) -/
theorem ev_tupleSeq {a : Expr} (hg : GlS F "tuple") (hm : F.mg "tuple" = none) (ha : EV F a Γ W (.ok d) W1) (h : SeqF d ds) (he : ∀ env, starEach [a] env = (false, eval a env) :: starEach [] env := by intro _; rfl) : EV F (.Call (.Name "tuple" p) [a] [] pos) Γ W (.ok (.tup ds)) W1 := by
  rcases h with rfl | rfl
  · exact ev_tupleL hg hm ha .lst he
  · exact ev_tupleT hg hm ha he
theorem range_get {α : Type} (xs : List α) : ∀ n, (List.range n).filterMap (fun m => xs[m]?) = xs.take n
  | 0 => by simp
  | n + 1 => by
    rw [List.range_succ, List.filterMap_append, range_get xs n, List.take_add_one]
    cases h : xs[n]? <;> simp [h]
theorem strided_one {α : Type} (xs : List α) : StepS.strided xs 0 1 = xs := by
  unfold StepS.strided
  rw [show (xs.length - 0 + 1 - 1) / 1 = xs.length by omega]
  have := range_get xs xs.length
  rw [List.take_length] at this
  simpa using this
theorem strided_len {α : Type} (xs : List α) (a c : Nat) (hc : 0 < c) : (StepS.strided xs a c).length ≤ xs.length := by
  unfold StepS.strided
  refine Nat.le_trans (List.length_filterMap_le _ _) ?_
  rw [List.length_range]
  by_cases h : xs.length - a = 0
  · rw [h, show 0 + c - 1 = c - 1 by omega, Nat.div_eq_of_lt (by omega)]
    exact Nat.zero_le _
  · refine Nat.div_le_of_le_mul ?_
    have h1 : xs.length - a ≤ xs.length := Nat.sub_le _ _
    obtain ⟨m, hm⟩ : ∃ m, xs.length = m + 1 := ⟨xs.length - 1, by omega⟩
    rw [hm] at h1 ⊢
    have : c * (m + 1) = c * m + c := Nat.mul_succ c m
    have h2 : m ≤ c * m := Nat.le_mul_of_pos_left m hc
    omega
/-- row[i::n] -/
theorem ev_stepSeq {st : Expr} {lo : Option Expr} {p2 : Pos} {W2 W3 W4 : OW} {i n : Nat} (he : EV F e Γ W (.ok d) W1) (hl : EO F lo Γ W1 (some (i : Int)) W2) (hh : EO F none Γ W2 none W3) (hs : EO F (some st) Γ W3 (some (n : Int)) W4) (hd : SeqF d ds) (h0 : 0 < n) (hz : ds.length ≤ sizeLine) :
    ∃ d', SeqF d' (StepS.strided ds i n) ∧ EV F (.Subscript e (.Slice lo none (some st) p2) pos) Γ W (.ok d') W4 := by
  rcases hd with rfl | rfl
  · refine ⟨_, .lst, ?_⟩
    have := (en_step (pos := pos) (p2 := p2) he hl hh hs (.lst (ds := ds)) (by intro z; injection z with z; omega)).ev
    rw [StepS.pickL_from ds i n h0] at this
    exact this
  · refine ⟨_, .tup, ?_⟩
    have := ev_stepT (pos := pos) (p2 := p2) he hl hh hs (by omega) (by rw [StepS.pickT_from ds i n h0]; exact Nat.le_trans (strided_len ds i n h0) hz) (fun q => by
      rw [StepS.pickT_from ds i n h0]
      simp only [Bool.and_eq_true, beq_iff_eq] at q
      obtain ⟨⟨q1, q2⟩, _⟩ := q
      have n1 : n = 1 := by omega
      subst n1
      by_cases hi : i = 0
      · subst hi
        exact strided_one ds
      · have e0 : ds = [] := by
          cases ds with
          | nil => rfl
          | cons x r =>
            exfalso
            unfold Builtin.Slice.sliceAdjust at q1
            simp only [List.length_cons] at q1
            rw [if_neg (show ¬ ((1 : Nat) : Int) < 0 by omega)] at q1
            rw [if_neg (show ¬ ((i : Nat) : Int) < 0 by omega)] at q1
            simp at q1
            omega
        subst e0
        exact List.eq_nil_of_length_eq_zero (Nat.le_zero.mp (strided_len ([] : List D) i 1 (by decide))))
    rw [StepS.pickT_from ds i n h0] at this
    exact this
/-- tuple(row[i::n]) -/
theorem ev_tupStep {st : Expr} {lo : Option Expr} {p2 p3 : Pos} {W2 W3 W4 : OW} {i n : Nat} (hg : GlS F "tuple") (hm : F.mg "tuple" = none) (he : EV F e Γ W (.ok d) W1) (hl : EO F lo Γ W1 (some (i : Int)) W2) (hh : EO F none Γ W2 none W3) (hs : EO F (some st) Γ W3 (some (n : Int)) W4) (hd : SeqF d ds) (h0 : 0 < n) (hz : ds.length ≤ sizeLine)
    (h1 : ∀ env, starEach [.Subscript e (.Slice lo none (some st) p2) p3] env = (false, eval (.Subscript e (.Slice lo none (some st) p2) p3) env) :: starEach [] env := by intro _; rfl) : EV F (.Call (.Name "tuple" p) [.Subscript e (.Slice lo none (some st) p2) p3] [] pos) Γ W (.ok (.tup (StepS.strided ds i n))) W4 := by
  obtain ⟨d', q1, q2⟩ := ev_stepSeq (pos := p3) (p2 := p2) he hl hh hs hd h0 hz
  exact ev_tupleSeq hg hm q2 q1 h1
end
end Sh
set_option Elab.async false
set_option linter.all false
set_option maxRecDepth 100000
set_option maxHeartbeats 1000000
set_option autoImplicit false
/-! ShU: how many keys a dict comprehension has. -/
namespace Sh
open PySem PySem.Spec PyProof.Rows L2
section
variable {κ : Type} [DecidableEq κ]
theorem putD_keys (acc : List (κ × D)) (k : κ) (v : D) : (putD acc k v).map (·.1) = if k ∈ acc.map (·.1) then acc.map (·.1) else acc.map (·.1) ++ [k] := by
  unfold putD
  have e : (acc.any fun kv => decide (kv.1 = k)) = decide (k ∈ acc.map (·.1)) := by
    rw [Bool.eq_iff_iff, List.any_eq_true, decide_eq_true_iff, List.mem_map]
    exact ⟨fun ⟨x, h1, h2⟩ => ⟨x, h1, of_decide_eq_true h2⟩, fun ⟨x, h1, h2⟩ => ⟨x, h1, decide_eq_true h2⟩⟩
  rw [e]
  by_cases h : k ∈ acc.map (·.1)
  · rw [if_pos h, if_pos (decide_eq_true h), List.map_map]
    refine List.map_congr_left fun x _ => ?_
    show (if x.1 = k then (x.1, v) else x).1 = x.1
    split <;> rfl
  · rw [if_neg h, if_neg (by rw [decide_eq_false h]; exact Bool.false_ne_true), List.map_append]
    rfl
/-- the keys in the order of their first coming -/
def keysOf : List κ → List κ → List κ
  | acc, [] => acc
  | acc, k :: ks => keysOf (if k ∈ acc then acc else acc ++ [k]) ks
theorem fold_keys {α : Type} (kf : α → κ) (vf : α → D) : ∀ (xs : List α) (acc : List (κ × D)), (xs.foldl (fun a d => putD a (kf d) (vf d)) acc).map (·.1) = keysOf (acc.map (·.1)) (xs.map kf)
  | [], acc => rfl
  | x :: xs, acc => by
    rw [List.foldl_cons, fold_keys kf vf xs, putD_keys]
    rfl
theorem keysOf_mem : ∀ (ks acc : List κ) (k : κ), k ∈ keysOf acc ks ↔ k ∈ acc ∨ k ∈ ks
  | [], acc, k => by simp [keysOf]
  | j :: ks, acc, k => by
    unfold keysOf
    rw [keysOf_mem ks]
    by_cases h : j ∈ acc
    · rw [if_pos h, List.mem_cons]
      constructor
      · rintro (a | a)
        · exact .inl a
        · exact .inr (.inr a)
      · rintro (a | a | a)
        · exact .inl a
        · exact .inl (a ▸ h)
        · exact .inr a
    · rw [if_neg h, List.mem_append, List.mem_singleton, List.mem_cons, or_assoc]
theorem keysOf_nodup : ∀ (ks acc : List κ), acc.Nodup → (keysOf acc ks).Nodup
  | [], acc, h => h
  | j :: ks, acc, h => by
    unfold keysOf
    refine keysOf_nodup ks _ ?_
    split
    · exact h
    · rename_i hj
      exact List.nodup_append.mpr ⟨h, by simp, fun a ha b hb => by
        rw [List.mem_singleton] at hb
        exact fun z => hj (by rw [← hb, ← z]; exact ha)⟩
theorem keysOf_len : ∀ (ks acc : List κ), (keysOf acc ks).length ≤ acc.length + ks.length
  | [], acc => Nat.le_refl _
  | j :: ks, acc => by
    unfold keysOf
    refine Nat.le_trans (keysOf_len ks _) ?_
    split
    · rw [List.length_cons]; omega
    · simp only [List.length_append, List.length_cons, List.length_nil]; omega
theorem keysOf_all : ∀ (ks acc : List κ), (∀ k ∈ ks, k ∉ acc) → ks.Nodup → keysOf acc ks = acc ++ ks
  | [], acc, _, _ => by simp [keysOf]
  | j :: ks, acc, h, hn => by
    rw [List.nodup_cons] at hn
    unfold keysOf
    rw [if_neg (h j List.mem_cons_self), keysOf_all ks _ (fun k hk z => ?_) hn.2, List.append_assoc]
    · rfl
    · rw [List.mem_append, List.mem_singleton] at z
      rcases z with z | z
      · exact h k (List.mem_cons_of_mem _ hk) z
      · exact hn.1 (z ▸ hk)
theorem keysOf_lt : ∀ (ks acc : List κ), ¬ ((∀ k ∈ ks, k ∉ acc) ∧ ks.Nodup) → (keysOf acc ks).length < acc.length + ks.length
  | [], acc, h => absurd ⟨fun _ z => (by cases z), List.nodup_nil⟩ h
  | j :: ks, acc, h => by
    unfold keysOf
    by_cases hj : j ∈ acc
    · rw [if_pos hj]
      have := keysOf_len ks acc
      rw [List.length_cons]
      omega
    · rw [if_neg hj]
      have := keysOf_lt ks (acc ++ [j]) fun ⟨h1, h2⟩ => h ⟨fun k hk => ?_, List.nodup_cons.mpr ⟨fun z => h1 j z (by simp), h2⟩⟩
      · rw [List.length_append, List.length_singleton] at this
        rw [List.length_cons]
        omega
      · rcases List.mem_cons.mp hk with z | z
        · exact z ▸ hj
        · exact fun y => h1 k z (List.mem_append_left _ y)
/-- fewer keys than items: some come twice -/
theorem fold_len {α : Type} (kf : α → κ) (vf : α → D) (xs : List α) : (xs.foldl (fun a d => putD a (kf d) (vf d)) []).length = (keysOf [] (xs.map kf)).length := by
  rw [← List.length_map (f := fun x : κ × D => x.1), fold_keys kf vf xs []]
  rfl
theorem keys_lt_iff (ks : List κ) : (keysOf [] ks).length < ks.length ↔ ¬ ks.Nodup := by
  constructor
  · intro h hn
    rw [keysOf_all ks [] (fun _ _ z => by cases z) hn] at h
    simp at h
  · intro h
    have := keysOf_lt ks [] fun z => h z.2
    simpa using this
end
end Sh
set_option Elab.async false
set_option linter.all false
set_option maxRecDepth 100000
set_option maxHeartbeats 1000000
set_option autoImplicit false
/-! ShV: x = [..] as a known list; filters. -/
namespace Sh
open PySem PySem.Spec PyProof.Rows L2
section
variable {F : CF} {Γ : Ga} {W W1 : OW} {pos : Pos} {A : AE}
/-- a new list in a slot is known from now on -/
theorem S1.frozen {st : Stmt} {Γ0 : Ga} {j : Nat} {xs : List D} (h : S1 F st Γ W { A with nx := fun Γ' W' => ∃ q, Γ' = Γ0.set j (some (.ptr q)) ∧ W' = (q, .lst xs) :: W1 }) (hA : A.nx (Γ0.set j (some (.lst xs))) W1) : S1 F st Γ W A :=
  fun G H σ De sl hk k => h G H σ De sl hk ⟨fun Γ' W' G' H' σ' ⟨q, e1, e2⟩ s sl' => by
      subst e1 e2
      obtain ⟨o, e, r, st⟩ := s.hk.freeze (i := 0) (a := q) (w := .lst xs) rfl
      obtain ⟨vs, rfl, r⟩ := r.lst_inv
      refine k.nx _ _ _ _ _ hA (s.trans st) ⟨by rw [List.length_set]; have := sl'.1; rw [List.length_set] at this; exact this, fun i d hd => ?_⟩
      by_cases hi : j = i
      · subst hi
        have hl : j < Γ0.length := by
          have := (List.getElem?_eq_some_iff.mp hd).1
          rwa [List.length_set] at this
        rw [List.getElem?_set_self hl] at hd
        cases hd
        obtain ⟨v, e1, r1⟩ := sl'.2 j (.ptr q) (List.getElem?_set_self hl)
        obtain rfl := r1.ptr_inv
        exact ⟨_, e1, .lst_mk upd_same (r.mono st.le)⟩
      · rw [List.getElem?_set_ne hi] at hd
        obtain ⟨v, e1, r1⟩ := sl'.2 i d (by rw [List.getElem?_set_ne hi]; exact hd)
        exact ⟨v, e1, r1.mono st.le⟩, k.rt, k.bk, k.ct, k.er⟩
/-- name = [..] on one line, by a function of the item: known from now on -/
theorem s1_setLcF (j : Nat) (f : D → Option D) {y : Str} {py spos : Pos} {tg iter elt : Expr} {ifs : List Expr} {scope : Scope} {own : List (Str × Nat)} {ds : List D} {Wk : OW → Prop} (hN : F.N.Nodup) (hj : F.N[j]? = some y) (hy : F.sc.names.lookup y = some .local) (hkd : F.sc.kind = .function) (hl : (py.line == pos.line) = true)
    (hnm : (scope.names.any fun (n, k) => n == y && (k == .local || k == .cell)) = false) (ok : blkC F.N F.sc scope own = true) (hi : EI F tg iter Γ W ds Wk W1) (hwk : Wk W1) (hs : ∀ d ∈ ds, TurnF (F.blk scope) tg ifs elt (own.map (·.2)) (wipeG Γ (own.map (·.2))) W1 d (f d)) (hz : ds.length < sizeLine)
    (hA : A.nx (Γ.set j (some (.lst (ds.filterMap f)))) W1) (hf : ∀ env x, foldedSetIterable iter env x = pure x := by intro _ _; rfl) :
    S1 F (.Assign [.Name y py] (.ListComp elt [⟨tg, iter, ifs, 0⟩] scope pos) spos) Γ W A := by
  refine S1.frozen (Γ0 := Γ) (j := j) (xs := ds.filterMap f) (W1 := W1) ?_ hA
  refine s1_setLc j hN hj hy hkd hl hnm ok hi (fun i => (ds.take i).filterMap f) (fun _ => W1) rfl rfl (fun _ _ => hwk) (fun i d hd => (hs d (List.mem_of_getElem? hd)).one hd f rfl) hz (fun q => ⟨q, rfl, ?_⟩) hf
  rw [List.take_length]
end
theorem GenH.to {F : CF} {Γ : Ga} {W W1 : OW} {e : Expr} {xs ys : List D} (h : GenH F e Γ W xs W1) (q : xs = ys) : GenH F e Γ W ys W1 := q ▸ h
/-- the text that a thing is -/
def strD : D → Str
  | .str z => z
  | _ => ⟨#[]⟩
def intD : D → Int
  | .int i => i
  | _ => 0
theorem filt_strs (p : Str → Bool) (zs : List Str) : (zs.map D.str).filterMap (fun d => if p (strD d) then some d else none) = (zs.filter p).map D.str := by
  induction zs with
  | nil => rfl
  | cons z zs ih =>
    rw [List.map_cons, List.filterMap_cons, List.filter_cons]
    rw [show strD (D.str z) = z from rfl]
    cases h : p z <;> simp [ih]
theorem map_strs {α : Type} (g : Str → α) (zs : List Str) : (zs.map D.str).map (fun d => g (strD d)) = zs.map g := by
  rw [List.map_map]
  rfl
theorem map_ints {α : Type} (g : Int → α) (zs : List Int) : (zs.map D.int).map (fun d => g (intD d)) = zs.map g := by
  rw [List.map_map]
  rfl
theorem cutD_from {α : Type} (xs : List α) (a : Nat) : cutD xs (some (a : Int)) none = xs.drop a := by
  unfold cutD
  rw [show HT.sIx xs.length 0 (some (a : Int)) = min a xs.length from HT.sIx_nat xs.length 0 a, HT.sIx_none]
  by_cases h : a ≤ xs.length
  · rw [Nat.min_eq_left h, List.take_of_length_le (by rw [List.length_drop]; exact Nat.le_refl _)]
  · rw [Nat.min_eq_right (by omega), List.drop_of_length_le (Nat.le_refl _), List.drop_of_length_le (by omega)]
    simp
theorem cutD_to {α : Type} (xs : List α) (b : Nat) : cutD xs none (some (b : Int)) = xs.take b := by
  unfold cutD
  rw [show HT.sIx xs.length xs.length (some (b : Int)) = min b xs.length from HT.sIx_nat xs.length xs.length b, HT.sIx_none, List.drop_zero, Nat.sub_zero]
  by_cases h : b ≤ xs.length
  · rw [Nat.min_eq_left h]
  · rw [Nat.min_eq_right (by omega), List.take_of_length_le (Nat.le_refl _), List.take_of_length_le (by omega)]
end Sh
set_option Elab.async false
set_option linter.all false
set_option maxRecDepth 100000
set_option maxHeartbeats 1000000
set_option autoImplicit false
/-! ShW: < of data, min of a list of data, list(range(..)), powers, dict displays, dict of pairs. -/
namespace StepS
open PySem PySem.Spec PySem.W PyProof.Rows L2
def rLtD (K : PySem.W.Frag) : R2 := fun x y H Q => ∃ d e, Dp K H x d ∧ Dp K H y e ∧ alike d e = true ∧ d ≠ .none ∧ SeqAt.shaped d = true ∧ Q (.bl (dataLt d e)) H
theorem op_ltD {X : Cx} (hu : X.A.units + 64 < cLine) : OpR X (compareOp .Lt) (rLtD X.K) := by
  intro pins s σ H x y v u Q I rx ry h
  obtain ⟨d, e, hd, he, al, nn, sd, q⟩ := h
  obtain ⟨as, r1⟩ := Dp.reads I d x v hd rx
  obtain ⟨bs, r2⟩ := Dp.reads I e y u he ry
  have h1 := SeqAt.depth_of_shaped sd
  have h2 : min d.depth e.depth ≤ d.depth := Nat.min_le_left _ _
  exact lt_data r1 r2 al nn (by omega) ⟨.bl _, H, I, rfl, q⟩
/-- min of a list of data: the first of the least, as it stands -/
def rMinD (K : PySem.W.Frag) : List V → Hp → VK → Prop := fun vs H Q => ∃ (a : Addr) (xs : List V) (p : PyData) (ps : List PyData), vs = [V.ref a] ∧ SqL K H a xs ∧ DpAll K H xs (p :: ps) ∧ AlikeAll (p :: ps) ∧ PyData.depthAll (p :: ps) ≤ 60 ∧
  ∀ (i : Nat) (v : V), xs[i]? = some v → (p :: ps)[i]? = some (minD p ps) → Q v H
theorem min_list_ix {prog : Program} {w : World} {A : Around} {E : Value → Shared → Prop} {s : Shared} {l : Addr} {vs : Array Value} {x : PyData} {xs : List PyData} {as : List Addr} {Q : Value → Shared → Prop} (hh : A.handled = none) (hl : s.heap.IsList l vs) (hr : ReadsAll s.heap vs.toList (x :: xs) as) (ha : AlikeAll (x :: xs)) (hu : A.units + 1 + PyData.depthAll (x :: xs) < cLine)
    (h : ∀ (i : Nat) v h' tk, vs[i]? = some v → (x :: xs)[i]? = some (minD x xs) → (∀ b o, s.heap.get? b = some o → h'.get? b = some o) → Q v { s with heap := h', toks := tk }) :
    wpAny (model prog w) A (call (.builtin "min") [.ref l]) Q E s := by
  have hn : vs.size = xs.length + 1 := readsAll_len hr
  refine call_min_walkH (iter_listW (A := A.in1) hh hl fun s₂ e W st hfp hw hk => ?_)
  refine ⟨_, _, _, _, _, _, _, s.heap, _, rfl, W, st, hfp, by omega, hw, hk, cmpIn_lt (A := A.in1) hr ha (by show A.units + 1 + _ < _; exact hu), fun v s' hP m => ?_⟩
  obtain ⟨h', tk, rfl, hk'⟩ := moved_old e rfl m
  have e1 : vs.size - 1 = xs.length := by omega
  have e2 := argBest_fold dataLt PyData.none x xs xs.length (Nat.le_refl _)
  rw [List.take_length] at e2
  rw [e1] at hP
  refine h _ v h' tk hP ?_ hk'
  have e3 := e2.2
  rw [List.getD_eq_getElem?_getD] at e3
  unfold minD
  rw [← e3]
  rw [List.getElem?_eq_getElem (by rw [List.length_cons]; exact Nat.lt_succ_of_le e2.1)]
  rfl
theorem cr_minD {X : Cx} (hc : X.calm = true) (hu : X.A.units + 65 < cLine) : CallR X (.builtin "min") (rMinD X.K) := by
  intro pins s σ H vs us Q I r h
  obtain ⟨a, xs, p, ps, rfl, hs, hd, ha, hz, q⟩ := h
  obtain ⟨its, rv, hl, _⟩ := I.list hs
  rw [Vals.ref1 r]
  obtain ⟨as, h4⟩ := Dp.readsAll I _ _ its hd rv
  refine min_list_ix (I.ok.hd hc) hl.isList h4 ha (by omega) fun i v h' tk e1 e2 hk => ?_
  have e1 : its[i]? = some v := by simpa using e1
  obtain ⟨hi, _⟩ := List.getElem?_eq_some_iff.mp e1
  have hx : xs[i]? = some (xs[i]'(by rw [rv.length]; exact hi)) := List.getElem?_eq_getElem _
  obtain ⟨w, ew, rw'⟩ := rv.get hx
  rw [e1] at ew
  cases ew
  exact ⟨_, H, I.kept hk, rw', q i _ hx e2⟩
end StepS
namespace Sh
open PySem PySem.Spec PySem.W PyProof.Rows L2
section
variable {F : CF} {Γ : Ga} {W W1 W2 W3 : OW} {pos p : Pos} {a b c e : Expr} {d d1 d2 d3 : D} {o : Out}
theorem et_ltD {x y : PyData} (ha : EV F a Γ W (.ok d1) W1) (hb : EV F b Γ W1 (.ok d2) W2) (h1 : Py W2 d1 x) (h2 : Py W2 d2 y) (al : alike x y = true) (nn : x ≠ .none) (sd : SeqAt.shaped x = true) (hm : behindInMarks .Lt b = false := by first | exact nobehind _ (by decide) (by decide) | rfl) : ET F (.Compare a [.Lt] [b] pos) Γ W (.ok (dataLt x y)) W2 :=
  fun G H σ Q sl hk k => ⟨tTest (tOp (StepS.rLtD F.K) (cE F a) (cE F b)), fun X hX => pt_cmpR (hX.K ▸ StepS.op_ltD (by have := hX.un; omega)) (cE_pe hX) (cE_pe hX) hm,
    ha G H σ _ sl hk fun v G1 H1 s1 r1 => hb G1 H1 σ _ (sl.mono s1.le) s1.hk fun w G2 H2 s2 r2 => ⟨x, y, h1.dp s2.hk (r1.mono s2.le), h2.dp s2.hk r2, al, nn, sd, _, rfl, k G2 H2 (s1.trans s2)⟩⟩
theorem evr_minL {P : D → OW → Prop} {ds : List D} {x : PyData} {ps : List PyData} (hg : GlS F "min") (hm : F.mg "min" = none) (ha : EV F a Γ W (.ok (.lst ds)) W1) (h : Py W1 (.lst ds) (.list (x :: ps))) (hal : AlikeAll (x :: ps)) (hz : PyData.depthAll (x :: ps) ≤ 60)
    (hp : ∀ (i : Nat) (d : D), ds[i]? = some d → (x :: ps)[i]? = some (minD x ps) → P d W1) (he : ∀ env, starEach [a] env = (false, eval a env) :: starEach [] env := by intro _; rfl) : EVR F (.Call (.Name "min" p) [a] [] pos) Γ W P :=
  fun G H σ Q sl hk k => ⟨tCB (StepS.rMinD F.K) (cA F [a]), fun X hX => pe_callB (hX.K ▸ StepS.cr_minD hX.calm hX.un) (hX.gl hg) (by rw [hX.mg]; exact hm) (by decide +kernel) (cA_pa hX) (he := he _), (ea_cons ha ea_nil he) G H σ _ sl hk fun vs G1 H1 s1 r1 => by
    obtain ⟨v, rfl, r⟩ := r1.one
    obtain ⟨q, ws, rfl, e1, q1⟩ := r.lst_inv
    cases h with
    | lst hl hq =>
      refine ⟨q, ws, x, ps, rfl, SqL.of (s1.hk.sub q _ e1), dpAll_of (q1.1.trans hl) (fun i v p e1 e2 => ?_), hal, hz, fun i v hv hmin => ?_⟩
      · obtain ⟨d, e3, r3⟩ := q1.getV e1
        exact (hq i d p e3 e2).dp s1.hk r3
      · obtain ⟨d, e3, r3⟩ := q1.getV hv
        exact k d W1 v G1 H1 (hp i d e3 hmin) s1 r3⟩
theorem rps_rng (K : PySem.W.Frag) (G : Hp) (lo hi : Int) : Rps K G (rgV lo hi) (rngD lo (hi - lo).toNat) := by
  unfold rgV rngD
  refine ⟨by rw [List.length_map, List.length_map], fun i v d h1 h2 => ?_⟩
  rw [List.getElem?_map] at h1 h2
  cases e : (List.range (hi - lo).toNat)[i]? with
  | none => rw [e] at h1; cases h1
  | some j =>
    rw [e] at h1 h2
    cases h1
    cases h2
    exact .int _
theorem en_listRg2 {lo hi : Int} {p2 p3 : Pos} (hg : GlS F "list") (hm : F.mg "list" = none) (hg2 : GlS F "range") (hm2 : F.mg "range" = none) (ha : EV F a Γ W (.ok (.int lo)) W1) (hb : EV F b Γ W1 (.ok (.int hi)) W2) (hr : RgOk lo hi)
    (na : ∀ env, starEach [a, b] env = (false, eval a env) :: starEach [b] env := by intro _; rfl) (nb : ∀ env, starEach [b] env = (false, eval b env) :: starEach [] env := by intro _; rfl) (hp : ∀ env, (backTo p3 (starEach [b] env)).any (·.1) = false := by intro _; rfl)
    (nc : ∀ env, starEach [.Call (.Name "range" p2) [a, b] [] p3] env = (false, eval (.Call (.Name "range" p2) [a, b] [] p3) env) :: starEach [] env := by intro _; rfl) :
    EN F (.Call (.Name "list" p) [.Call (.Name "range" p2) [a, b] [] p3] [] pos) Γ W (rngD lo (hi - lo).toNat) W2 :=
  fun G H σ Q sl hk k => ⟨tLstRg (tRg2 (cE F a) (cE F b)), fun X hX => pe_listRg hX.calm (hX.gl hg) (by rw [hX.mg]; exact hm) (prg_2 (hX.gl hg2) (by rw [hX.mg]; exact hm2) (cE_pe hX) (cE_pe hX) (na _) (nb _) (hp _)) (nc _),
    ha G H σ _ sl hk fun v G1 H1 s1 r1 => hb G1 H1 σ _ (sl.mono s1.le) s1.hk fun w G2 H2 s2 r2 => ⟨lo, hi, r1.int_inv, r2.int_inv, hr, fun q hq => k q G2 _ (s1.back (s2.back hq)) ((s1.trans s2).trans (s2.hk.allocO hq (rps_rng _ _ _ _)))⟩⟩
theorem en_listRg1 {hi : Int} {p2 p3 : Pos} (hg : GlS F "list") (hm : F.mg "list" = none) (hg2 : GlS F "range") (hm2 : F.mg "range" = none) (ha : EV F a Γ W (.ok (.int hi)) W1) (hr : RgOk 0 hi)
    (na : ∀ env, starEach [a] env = (false, eval a env) :: starEach [] env := by intro _; rfl)
    (nc : ∀ env, starEach [.Call (.Name "range" p2) [a] [] p3] env = (false, eval (.Call (.Name "range" p2) [a] [] p3) env) :: starEach [] env := by intro _; rfl) :
    EN F (.Call (.Name "list" p) [.Call (.Name "range" p2) [a] [] p3] [] pos) Γ W (rngD 0 hi.toNat) W1 :=
  fun G H σ Q sl hk k => ⟨tLstRg (tRg1 (cE F a)), fun X hX => pe_listRg hX.calm (hX.gl hg) (by rw [hX.mg]; exact hm) (prg_1 (hX.gl hg2) (by rw [hX.mg]; exact hm2) (cE_pe hX) (na _)) (nc _),
    ha G H σ _ sl hk fun v G1 H1 s1 r1 => ⟨hi, r1.int_inv, hr, fun q hq => k q G1 _ (s1.back hq) (s1.trans (s1.hk.allocO hq (by have := rps_rng F.K G1 0 hi; rw [Int.sub_zero] at this; exact this)))⟩⟩
theorem ev_pow {i j : Int} (ha : EV F a Γ W (.ok (.int i)) W1) (hb : EV F b Γ W1 (.ok (.int j)) W2) (h : CPow i j) : EV F (.BinOp a .Pow b pos) Γ W (.ok (.int (i ^ j.toNat))) W2 :=
  ev_op (fun X _ => op_pow) ha hb fun G H x y Q hk rx ry k => ⟨i, j, rx.int_inv, ry.int_inv, h, k _ G H (.refl hk) (.int _)⟩
end
end Sh
set_option Elab.async false
set_option linter.all false
set_option maxRecDepth 100000
set_option maxHeartbeats 1000000
set_option autoImplicit false
/-! ShX: defs that give something owned (LawR), comprehensions and for's over such; slices of what is read. -/
namespace Sh
open PySem PySem.Spec PyProof.Rows L2
abbrev LawR := List D → OW → (D → OW → Prop) → Prop
def spOfR (K : PySem.W.Frag) (T : Tb) (S : LawR) : Sp := fun vs H Q E => ∃ G W ds Pp, Hk K T G W H ∧ Rps K G vs ds ∧ S ds W Pp ∧ ∀ d W' v G' H', Pp d W' → Step K T G W H G' W' H' → Rp K G' v d → Q v H'
def AEofR (Pp : D → OW → Prop) : AE where
  nx := fun _ W2 => ∃ W', Dn W2 W' ∧ Pp .non W'
  rt := fun d W2 => ∃ W', Dn W2 W' ∧ Pp d W'
section
variable {P : Program} {w : World} {K : PySem.W.Frag} {mg : Str → Option Value} {base : Heap} {T : Tb}
theorem fn_defR {x qual : Str} {st : Stmt} {f : Addr} {fd : FuncData} {N ps : List Str} {k : Nat} {S : LawR} (Fu : Fun K x qual st f fd) (Sc : FnScope N ps (defScope st)) (hl : ∀ ds W Pp, S ds W Pp → ds.length = ps.length)
    (body : ∀ (cl : List (Str × Addr)) (E : XK) (ds : List D) (W : OW) (Pp : D → OW → Prop), S ds W Pp → SS ⟨P, w, K, mg, base, N, defScope st, k, fd.code, E, T, qual ++ ".<locals>.", some cl⟩ (defBody st) (startG N ds) W (AEofR Pp)) :
    FnOk P w K mg base (L2.CX P w) (k + 1) f fd ps (spOfR K T S) := by
  obtain ⟨oc, od, kV, doc, pm, an, cdv, ct, osl, rfl, lk, hcd⟩ := Fu.ex
  refine fn_of lk hcd Sc (fun vs H Q E ⟨G, W, ds, Pp, hk, rs, hS, _⟩ => by rw [rs.1]; exact hl _ _ _ hS) fun A outer s H vs Q E hr ⟨G, W, ds, Pp, hk, rs, hS, hq⟩ => ?_
  obtain ⟨t, ht, q⟩ := body _ E ds W Pp hS G H (L2.start N vs) { nx := fun _ H' => Q .non H', rt := Q } (slots_start rs) hk
    ⟨fun Γ' W2 G' H' σ' ⟨W', dn, e⟩ st _ => hq _ W' _ G' H' e (dn.step st) .non,
      fun d W2 v G' H' ⟨W', dn, e⟩ st r => hq d W' v G' H' e (dn.step st) r,
      fun Γ' W2 G' H' σ' h => h.elim, fun Γ' W2 G' H' σ' h => h.elim,
      fun c W2 G' H' e st => e.elim⟩
  refine ⟨t, ht _ ⟨⟨rfl, rfl, rfl, rfl, rfl, rfl, rfl, rfl, hr, rfl, ?_, rfl, fun l e => Option.some.inj e⟩, Sc.nd, fun _ => rfl, ?_, ?_, rfl, rfl⟩, q⟩
  · exact passes_call (X := cxOf (L2.CX P w) P w K mg base N qual (defScope st) f cdv A outer s H E) (takes_of rfl rfl rfl rfl) fun cls d σ H h => h
  · exact passes_of (X := cxOf (L2.CX P w) P w K mg base N qual (defScope st) f cdv A outer s H E) rfl
  · exact takes_of rfl rfl rfl rfl
structure FdR (P : Program) (w : World) (K : PySem.W.Frag) (mg : Str → Option Value) (base : Heap) (T : Tb) (x : Str) (k : Nat) (n : Nat) (S : LawR) : Prop where
  ex : ∃ (f : Addr) (fd : FuncData) (ps : List Str), mg x = some (.ref f) ∧ PySem.W.keepIn K (.ref f) = true ∧ Binds K fd ps [] ∧ ps.length = n ∧ FnOk P w K mg base (L2.CX P w) k f fd ps (spOfR K T S)
end
section
variable {F : CF} {Γ : Ga} {W W1 W2 W3 : OW} {pos p : Pos} {a b c e : Expr} {d d1 d2 d3 : D} {o : Out} {A : AE}
theorem evr_callR {x : Str} {k : Nat} {es : List Expr} {ds : List D} {S : LawR} {Wf Wr : OW} {P Pp : D → OW → Prop} (h : Sh.FdR F.P F.w F.K F.mg F.base F.T x k (e :: es).length S) (hkk : k ≤ F.k) (hg : GlS F x) (ha : EA F (e :: es) Γ W (.ok ds) W1) (hw : W1.Perm (Wf ++ Wr)) (hS : S ds Wf Pp) (hp : ∀ d Wf', Pp d Wf' → P d (Wf' ++ Wr))
    (hdb : (x == ("__debug__" : Str)) = false := by decide) (he : ∀ env, starEach (e :: es) env = (false, eval e env) :: starEach es env := by intro _; rfl) (hpl : ∀ env, (backTo pos (starEach es env)).any (·.1) = false := by intro _; rfl) : EVR F (.Call (.Name x p) (e :: es) [] pos) Γ W P := by
  obtain ⟨f, fd, ps, h1, h2, h3, h4, h5⟩ := h.ex
  refine fun G H σ Q sl hk kt => ⟨tCall (spOfR F.K F.T S) [] F.E (cA F (e :: es)), fun X hX => pe_call (FnOk.cast h5 hX.P hX.w hX.K hX.mg hX.base) (hX.room.mono hkk) (hX.gl hg) (by rw [hX.mg]; exact h1) (by rw [hX.K]; exact h2) (by rw [hX.K]; exact h3) .nil hX.pass (cA_pa hX) hdb (he _) (hpl _),
    ha G H σ _ sl hk fun vs G1 H1 s1 r1 => ?_⟩
  rw [List.append_nil]
  have hk2 := s1.hk.perm hw
  have back : ∀ {G' H' Wf'}, Step F.K F.T G1 Wf H1 G' Wf' H' → Step F.K F.T G W H G' (Wf' ++ Wr) H' := fun st => s1.trans ((st.more hk2).perm hw.symm (.refl _))
  exact ⟨G1, Wf, ds, Pp, hk2.less (List.sublist_append_left _ _), r1, hS, fun d Wf' v G' H' q st r => kt d _ v G' H' (hp d Wf' q) (back st) r⟩
/-- [e for x in l], what is owned grows -/
theorem evr_lcR {tg iter elt : Expr} {scope : Scope} {own : List (Str × Nat)} {ds : List D} {Wk : OW → Prop} {P : D → OW → Prop} (hN : F.N.Nodup) (ok : blkC F.N F.sc scope own = true) (hi : EI F tg iter Γ W ds Wk W1) (I : Nat → List D → OW → Prop) (h0 : I 0 [] W1) (hwk : ∀ i acc W', I i acc W' → Wk W' ∧ acc.length ≤ i)
    (hs : ∀ i d acc W', ds[i]? = some d → I i acc W' → ∃ Γ1 ts, EG (F.blk scope) (SatG (F.blk scope)) tg (wipeG Γ (own.map (·.2))) d Γ1 ts ∧ (∀ t ∈ ts, t ∈ own.map (·.2)) ∧ EVR (F.blk scope) elt Γ1 W' (fun y W2 => I (i + 1) (acc ++ [y]) W2)) (hz : ds.length < sizeLine)
    (hP : ∀ acc W' q, I ds.length acc W' → P (.ptr q) ((q, .lst acc) :: W')) (hf : ∀ env x, foldedSetIterable iter env x = pure x := by intro _ _; rfl) : EVR F (.ListComp elt [⟨tg, iter, [], 0⟩] scope pos) Γ W P := by
  refine fun G H σ Q sl hk k => ⟨tLc (cI F tg iter) (cG (SatG (F.blk scope)) tg) (cTs (F.blk scope) []) (cE (F.blk scope) elt) (own.map (·.2)), fun X hX => pe_lc hX.calm (by rw [hX.N]; exact hN) (cI_pi hX) (blkOk_by (by rw [hX.N, hX.sc]; exact ok))
      (fun s H C cl fp => cG_pg ⟨hX.blk scope s H C cl fp, by show X.N.Nodup; rw [hX.N]; exact hN⟩) (fun s H C cl fp => cTs_pts (hX.blk scope s H C cl fp)) (fun s H C cl fp => cE_pe (hX.blk scope s H C cl fp)) (hf _), ?_⟩
  generalize hvs : own.map (·.2) = vs at *
  refine hi G H σ _ sl hk fun J G1 H1 s1 wl D hD => ?_
  have s2 := s1.hk.allocO (w := .lst []) (o := .lst []) hD Rps.nil
  have hD0 := s1.back hD
  refine ⟨fun i m H' => m = ds.length - i ∧ i ≤ ds.length ∧ ∃ G' acc W', I i acc W' ∧ Step F.K F.T G W H G' (W' ++ [(D, .lst acc)]) H' ∧ Le G1 G', ⟨ds.length, by simp, Nat.zero_le _, G1, [], W1, h0, ?_, Le.refl _⟩, ?_⟩
  · refine (s1.trans s2).perm (List.Perm.refl _) ?_
    exact (List.perm_append_comm (l₁ := [(D, AO.lst [])]) (l₂ := W1))
  · rintro i m H' ⟨rfl, hil, G', acc, W', inv, st, le⟩
    obtain ⟨hw1, hlen⟩ := hwk i acc W' inv
    have hkW : Hk F.K F.T G' W' H' := st.hk.less (List.sublist_append_left _ _)
    obtain ⟨w1, w2⟩ := wl G' W' H' le hkW hw1 i
    by_cases hlt : i < ds.length
    · obtain ⟨go, w3⟩ := w1 ds[i] (List.getElem?_eq_getElem hlt)
      refine .inr ⟨go, fun H2 => ∃ G2 acc2 W2, I (i + 1) acc2 W2 ∧ Step F.K F.T G W H G2 (W2 ++ [(D, .lst acc2)]) H2 ∧ Le G1 G2, fun H2 q => ⟨ds.length - (i + 1), by omega, rfl, hlt, q⟩, fun x H2 y => ?_⟩
      obtain ⟨s3, y3⟩ := w3 x H2 y
      obtain ⟨Γ1, ts, hg, hts, hev⟩ := hs i ds[i] acc W' (List.getElem?_eq_getElem hlt) inv
      have st3 := st.trans (s3.more st.hk)
      refine hg G' H2 x (L2.wipe σ vs) _ ((sl.mono st.le).wipe vs) s3.hk.sub y3 fun σ2 sl2 bt => ⟨wipe_but bt hts, ?_⟩
      refine ets_nil G' H2 σ2 _ sl2 s3.hk fun G3 H3 s4 => ?_
      have st4 := st3.trans (s4.more st3.hk)
      rw [if_pos rfl]
      refine hev G3 H3 σ2 _ (sl2.mono s4.le) s4.hk fun y W2 v G4 H4 inv2 s5 rv => ?_
      have st5 := st4.trans (s5.more st4.hk)
      have hix : (W2 ++ [(D, AO.lst acc)])[W2.length]? = some (D, .lst acc) := by
        rw [List.getElem?_append_right (Nat.le_refl _), Nat.sub_self]
        rfl
      obtain ⟨_, ob, eo, ro⟩ := st5.hk.own _ (List.mem_of_getElem? hix)
      obtain ⟨ws, rfl, ro⟩ := ro.lst_inv
      refine ⟨ws, eo, by rw [ro.1]; omega, G4, _, W2, inv2, ?_, (le.trans s4.le).trans s5.le⟩
      have s6 := st5.hk.write (w' := .lst (acc ++ [y])) (o' := .lst (ws ++ [v])) hix (ro.snoc rv) (fun c q e => by
        have eo' : H4 D = some (.lst ws) := eo
        rw [eo'] at e
        cases e)
      have e6 : (W2 ++ [(D, AO.lst acc)]).set W2.length (D, .lst (acc ++ [y])) = W2 ++ [(D, .lst (acc ++ [y]))] := by
        rw [List.set_append_right _ _ (Nat.le_refl _), Nat.sub_self]
        rfl
      rw [e6] at s6
      exact st5.trans s6
    · have e : i = ds.length := by omega
      subst e
      exact .inl ⟨w2 (Nat.le_refl _), k _ _ _ G' H' (hP acc W' D inv) (st.perm (List.Perm.refl _) List.perm_append_comm) (.ptr D)⟩
/-- what a for goes over, told when it is known -/
def EIR (F : CF) (tg iter : Expr) (Γ : Ga) (W : OW) (Pp : List D → (OW → Prop) → OW → Prop) : Prop := ∀ (G H : Hp) (σ : L2.St) (R : It → Hp → Prop), Slots F.K G Γ σ → Hk F.K F.T G W H → (∀ J ds Wk W1 G' H', Pp ds Wk W1 → Step F.K F.T G W H G' W1 H' → Wlk F J G' Wk ds → R J H') → cI F tg iter σ H R
theorem eir_list {tg : Expr} {Pp : List D → (OW → Prop) → OW → Prop} (h : EVR F e Γ W (fun d W1 => ∃ ds, AsL W1 d ds ∧ Pp ds (fun W' => AsL W' d ds) W1)) : EIR F tg e Γ W Pp :=
  fun G H σ R sl hk k => ⟨iList F.K (cE F e), fun X hX => hX.K ▸ pi_list (cE_pe hX), h G H σ _ sl hk fun d W1 v G1 H1 ⟨ds, hd, hp⟩ s1 r1 => by
    obtain ⟨a, vs, rfl, e1, q1⟩ := hd.at s1.hk r1
    refine ⟨a, rfl, ⟨vs, SqL.of e1⟩, k _ ds _ W1 G1 H1 hp s1 fun G' W' H' le hk' wk i => ?_⟩
    obtain ⟨a', vs', ea, e2, q2⟩ := wk.at hk' (r1.mono le)
    cases ea
    refine ⟨fun d hd => ?_, fun hi => ⟨vs', SqL.of e2, by rw [q2.1]; exact hi⟩⟩
    obtain ⟨v, ev, rv⟩ := q2.get hd
    refine ⟨⟨vs', v, SqL.of e2, ev⟩, fun x H'' y => ?_⟩
    obtain ⟨rfl, y⟩ := y
    have := y vs' (SqL.of e2)
    rw [ev] at this
    cases this
    exact ⟨.refl hk', yp_of rv⟩⟩
theorem s1_forR {tg iter : Expr} {body : List Stmt} {Pp : List D → (OW → Prop) → OW → Prop} (hi : EIR F tg iter Γ W Pp) (hP : ∀ ds Wk W1, Pp ds Wk W1 → ∃ I : Nat → Ga → OW → Prop, I 0 Γ W1 ∧ (∀ i Γ' W', I i Γ' W' → Wk W') ∧
    (∀ i d Γ' W', ds[i]? = some d → I i Γ' W' → ∃ Γ'' ts, EG F (SatS F) tg Γ' d Γ'' ts ∧ SS F body Γ'' W' { A with nx := I (i + 1), ct := I (i + 1), bk := A.nx }) ∧ (∀ Γ' W', I ds.length Γ' W' → A.nx Γ' W')) (hf : ∀ env x, foldedSetIterable iter env x = pure x := by intro _ _; rfl) : S1 F (.For tg iter body [] pos) Γ W A :=
  fun G H σ De sl hk k => ⟨tFor (cI F tg iter) (cG (SatS F) tg) (cSs F body), fun X hX => ps_for hX.own hX.calm (cI_pi hX.toSat) (cG_pg hX) (cSs_pss hX) (hf _), hi G H σ _ sl hk fun J ds Wk W1 G1 H1 hp s1 wl => by
    obtain ⟨I, h0, hk', hs, hd⟩ := hP ds Wk W1 hp
    refine ⟨fun i m σ' H' => m = ds.length - i ∧ i ≤ ds.length ∧ ∃ Γ' W' G', Step F.K F.T G1 W1 H1 G' W' H' ∧ Slots F.K G' Γ' σ' ∧ I i Γ' W', ⟨ds.length, by simp, Nat.zero_le _, Γ, W1, G1, .refl s1.hk, sl.mono s1.le, h0⟩, ?_⟩
    rintro i m σ' H' ⟨rfl, hil, Γ', W', G', st, sl', inv⟩
    obtain ⟨w1, w2⟩ := wl G' W' H' st.le st.hk (hk' i Γ' W' inv) i
    by_cases hlt : i < ds.length
    · obtain ⟨go, w3⟩ := w1 ds[i] (List.getElem?_eq_getElem hlt)
      refine .inr ⟨go, fun σ2 H2 => ∃ Γ2 W2 G2, Step F.K F.T G1 W1 H1 G2 W2 H2 ∧ Slots F.K G2 Γ2 σ2 ∧ I (i + 1) Γ2 W2, fun σ2 H2 q => ⟨ds.length - (i + 1), by omega, rfl, hlt, q⟩, fun x H'' y => ?_⟩
      obtain ⟨s2, y2⟩ := w3 x H'' y
      obtain ⟨Γ'', ts, hg, hb⟩ := hs i ds[i] Γ' W' (List.getElem?_eq_getElem hlt) inv
      refine hg G' H'' x σ' _ sl' s2.hk.sub y2 fun σ3 sl3 _ => ?_
      refine hb G' H'' σ3 _ sl3 s2.hk ⟨fun Γ4 W4 G4 H4 σ4 h4 t4 sl4 => ⟨Γ4, W4, G4, (st.trans s2).trans t4, sl4, h4⟩, fun d W4 v G4 H4 h4 t4 r4 => k.rt d W4 v G4 H4 h4 (s1.trans ((st.trans s2).trans t4)) r4, fun Γ4 W4 G4 H4 σ4 h4 t4 sl4 => k.nx Γ4 W4 G4 H4 σ4 h4 (s1.trans ((st.trans s2).trans t4)) sl4,
        fun Γ4 W4 G4 H4 σ4 h4 t4 sl4 => ⟨Γ4, W4, G4, (st.trans s2).trans t4, sl4, h4⟩, fun c W4 G4 H4 h4 t4 => k.er c W4 G4 H4 h4 (s1.trans ((st.trans s2).trans t4))⟩
    · have e : i = ds.length := by omega
      subst e
      exact .inl ⟨w2 (Nat.le_refl _), k.nx Γ' W' G' H' σ' (hd Γ' W' inv) (s1.trans st) sl'⟩⟩
/-- a list that stands for good: the script's -/
def Stands (K : PySem.W.Frag) (T : Tb) (a : Addr) (xs : List V) (W : OW) : Prop := ∀ G H, Hk K T G W H → SqL K H a xs
theorem en_sliceV {lo hi : Option Expr} {l h' : Option Int} {p2 : Pos} {q : Addr} {ns : List Int} (he : EV F e Γ W (.ok (.ptr q)) W1) (hl : EO F lo Γ W1 l W2) (hh : EO F hi Γ W2 h' W3) (hS : Stands F.K F.T q (ns.map V.int) W3) : EN F (.Subscript e (.Slice lo hi none p2) pos) Γ W ((cutD ns l h').map D.int) W3 :=
  fun G H σ Q sl hk k => ⟨tSl (rSlL F.K) (cE F e) (cO F lo) (cO F hi), fun X hX => pe_slice (hX.K ▸ sl_list) (cE_pe hX) (cO_po hX) (cO_po hX),
    he G H σ _ sl hk fun x G1 H1 s1 r1 => hl G1 H1 σ _ (sl.mono s1.le) s1.hk fun G2 H2 s2 => hh G2 H2 σ _ (sl.mono (s1.le.trans s2.le)) s2.hk fun G3 H3 s3 => by
      obtain rfl := r1.ptr_inv
      refine ⟨q, _, rfl, hS G3 H3 s3.hk, fun z hz => k z G3 _ (s1.back (s2.back (s3.back hz))) (((s1.trans s2).trans s3).trans (s3.hk.allocO hz ?_))⟩
      have e1 : cutV (ns.map V.int) l h' = (cutD ns l h').map V.int := by
        unfold cutV cutD
        rw [List.length_map, List.map_take, List.map_drop]
      rw [e1]
      exact Rps.of_ints _⟩
end
end Sh
set_option Elab.async false
set_option linter.all false
set_option maxRecDepth 100000
set_option maxHeartbeats 1000000
set_option autoImplicit false
/-! ShY: dict(pairs), dict displays, what is looked up in new dicts. -/
namespace Sh
open PySem PySem.Spec PyProof.Rows L2
section
variable {F : CF} {Γ : Ga} {W W1 W2 W3 : OW} {pos p : Pos} {a b c e : Expr} {d d1 d2 d3 : D} {o : Out} {A : AE}
def pairD (kd : Key × D) : D := .tup [kD kd.1, kd.2]
theorem rps_pairs {K : PySem.W.Frag} {T : Tb} {G H : Hp} {W : OW} (hk : Hk K T G W H) : ∀ {ks : List (Key × D)} {vs : List V}, Rps K G vs (ks.map pairD) → ∃ (ps : List Addr) (kvs : List (Key × V)), vs = ps.map V.ref ∧ Paired (fun p kv => SqT K H p [kV kv.1, kv.2]) ps kvs ∧ Rpk K G kvs ks
  | [], vs, h => by
    rw [h.inv0]
    exact ⟨[], [], rfl, .nil, .nil⟩
  | (k, d) :: ks, vs, h => by
    rw [List.map_cons] at h
    obtain ⟨v, vs', rfl, h1, h2⟩ := h.inv
    obtain ⟨ps, kvs, rfl, h3, h4⟩ := rps_pairs hk h2
    obtain ⟨a, ws, rfl, e1, q1⟩ := h1.tup_inv
    obtain ⟨u, w, rfl, r1, r2⟩ := q1.two
    refine ⟨a :: ps, (k, w) :: kvs, rfl, .cons ?_ h3, h4.cons r2⟩
    have := sqt_up hk e1
    rw [r1.key_inv] at this
    exact this
theorem Rpk.merge {K : PySem.W.Frag} {G : Hp} : ∀ {ks : List (Key × D)} {kvs : List (Key × V)} {acc : List (Key × V)} {da : List (Key × D)}, Rpk K G kvs ks → Rpk K G acc da → Rpk K G (mergeK acc kvs) (ks.foldl (fun a kd => putD a kd.1 kd.2) da)
  | [], kvs, acc, da, h, h2 => by
    rw [h.inv0]
    exact h2
  | (k, d) :: ks, kvs, acc, da, h, h2 => by
    obtain ⟨v, vs, rfl, r, t⟩ := h.inv
    show Rpk K G (mergeK (putK acc k v) vs) (ks.foldl (fun a kd => putD a kd.1 kd.2) (putD da k d))
    exact Rpk.merge t (h2.put r)
def mergeD (ks : List (Key × D)) : List (Key × D) := ks.foldl (fun a kd => putD a kd.1 kd.2) []
/-- dict(pairs) -/
theorem end_dictP {ks : List (Key × D)} (hg : GlS F "dict") (hm : F.mg "dict" = none) (ha : EV F a Γ W (.ok d) W1) (h : AsL W1 d (ks.map pairD)) (he : ∀ env, starEach [a] env = (false, eval a env) :: starEach [] env := by intro _; rfl) : END F (.Call (.Name "dict" p) [a] [] pos) Γ W (mergeD ks) W1 :=
  fun G H σ Q sl hk k => ⟨tCB (fun xs H Q => ∃ (a : Addr) (ps : List Addr) (kvs : List (Key × V)), xs = [.ref a] ∧ SqL F.K H a (ps.map V.ref) ∧ Paired (fun p kv => SqT F.K H p [kV kv.1, kv.2]) ps kvs ∧ ∀ p, H p = none → Q (.ref p) (upd H p (.dK (mergeK [] kvs)))) (cA F [a]),
    fun X hX => pe_callTy (hX.K ▸ call_dictP hX.calm) (hX.gl hg) (by rw [hX.mg]; exact hm) (by decide +kernel) (cA_pa hX) (he := he _), (ea_cons ha ea_nil he) G H σ _ sl hk fun vs G1 H1 s1 r1 => by
      obtain ⟨v, rfl, r⟩ := r1.one
      obtain ⟨q, ws, rfl, e1, q1⟩ := h.at s1.hk r
      obtain ⟨ps, kvs, rfl, h3, h4⟩ := rps_pairs s1.hk q1
      exact ⟨q, ps, kvs, rfl, SqL.of e1, h3, fun z hz => k z G1 _ (s1.back hz) (s1.trans (s1.hk.allocO hz (show RO F.K G1 (.dK _) (.dK _) from h4.merge .nil)))⟩⟩
/-- pairs of a display -/
def EPs (F : CF) (es : List (Expr × Expr)) (Γ : Ga) (W : OW) (ks : List (Key × D)) (W' : OW) : Prop := ∀ (G H : Hp) (σ : L2.St) (Q : List (V × V) → Hp → Prop), Slots F.K G Γ σ → Hk F.K F.T G W H →
  (∀ kvs G' H', Step F.K F.T G W H G' W' H' → Rpk F.K G' kvs ks → Q (kvs.map fun kv => (kV kv.1, kv.2)) H') → tPairs (es.map fun kv => (cE F kv.1, cE F kv.2)) σ H Q
theorem eps_nil : EPs F [] Γ W [] W := fun G H σ Q sl hk k => k [] G H (.refl hk) .nil
theorem eps_cons {q : Key} {es : List (Expr × Expr)} {ks : List (Key × D)} (ha : EV F a Γ W (.ok (kD q)) W1) (hb : EV F b Γ W1 (.ok d) W2) (hr : EPs F es Γ W2 ks W3) : EPs F ((a, b) :: es) Γ W ((q, d) :: ks) W3 :=
  fun G H σ Q sl hk k => ha G H σ _ sl hk fun u G1 H1 s1 r1 => hb G1 H1 σ _ (sl.mono s1.le) s1.hk fun v G2 H2 s2 r2 => hr G2 H2 σ _ (sl.mono (s1.le.trans s2.le)) s2.hk fun kvs G3 H3 s3 r3 => by
    have := k ((q, v) :: kvs) G3 H3 ((s1.trans s2).trans s3) (r3.cons (r2.mono s3.le))
    rw [r1.key_inv]
    exact this
theorem pps_of {X : Cx} (hX : Sat F X) {pos : Pos} : ∀ es : List (Expr × Expr), PPs X pos (es.map fun kv => some kv.1) (es.map (·.2)) (es.map fun kv => (cE F kv.1, cE F kv.2))
  | [] => pps_nil
  | (a, b) :: es => pps_cons (cE_pe hX) (cE_pe hX) (pps_of hX es)
theorem end_disp {es : List (Expr × Expr)} {keys : List (Option Expr)} {values : List Expr} {ks : List (Key × D)} (hks : keys = es.map (fun kv => some kv.1)) (hvs : values = es.map (·.2)) (h : ∀ q, EPs F es Γ ((q, .dK []) :: W) ks ((q, .dK []) :: W1)) (h0 : es ≠ []) (h15 : es.length ≤ 15) (hl : ks.length ≤ 15) : END F (.Dict keys values pos) Γ W (mergeD ks) W1 :=
  fun G H σ Q sl hk k => ⟨tDisp (es.map fun kv => (cE F kv.1, cE F kv.2)), fun X hX => by
      subst hks hvs
      exact pe_disp (pps_of hX es) (by simp) (by rw [List.length_map, List.length_map]) (fun z => h0 (List.map_eq_nil_iff.mp z)) (by rw [List.length_map]; exact h15), fun q hq => by
    have st := hk.allocO (w := .dK []) (o := .dK []) hq Rpk.nil
    refine h q G _ σ _ sl st.hk fun kvs G' H' s r => ?_
    obtain ⟨gq, ob, eo, ro⟩ := s.hk.own (q, .dK []) List.mem_cons_self
    obtain ⟨ws, rfl, ro⟩ := ro.dK_inv
    obtain rfl := ro.inv0
    have eo' : H' q = some (.dK []) := eo
    refine ⟨eo', kvs, rfl, by rw [Rpk.len r]; exact hl, k q G' _ hq ((st.trans s).trans (s.hk.write (i := 0) (w' := .dK (mergeD ks)) (o' := .dK (mergeK [] kvs)) rfl (show RO F.K G' (.dK _) (.dK _) from r.merge .nil) fun c z e' => ?_))⟩
    rw [eo'] at e'
    cases e'⟩
/-- d[k], d new -/
theorem ev_dgetN {ds : List (Key × D)} {q : Key} (ha : END F a Γ W ds W1) (hb : ∀ p, EV F b Γ ((p, .dK ds) :: W1) (.ok (kD q)) ((p, .dK ds) :: W1)) (e : valD ds q = some d) (hs : NoSl b := by exact fun _ _ => rfl) : EV F (.Subscript a b pos) Γ W (.ok d) W1 :=
  fun G H σ Q sl hk k => ⟨tDGet (cE F a) (cE F b), fun X hX => pe_dget (by have := hX.un; omega) (cE_pe hX) (cE_pe hX) hs,
    ha G H σ _ sl hk fun p G1 H1 hp s1 => hb p G1 H1 σ _ (sl.mono s1.le) s1.hk fun y G2 H2 s2 r2 => by
      obtain ⟨gq, ob, eo, ro⟩ := s2.hk.own (p, .dK ds) List.mem_cons_self
      obtain ⟨kvs, rfl, ro⟩ := ro.dK_inv
      have eo' : H2 p = some (.dK kvs) := eo
      rcases Rpk.val q ro with ⟨z, _⟩ | ⟨d', v, z1, z2, r⟩
      · rw [e] at z
        cases z
      · rw [e] at z1
        cases z1
        refine ⟨p, v, rfl, ?_, k _ G2 H2 ((s1.trans s2).drop (List.sublist_cons_self _ _)) r⟩
        rw [r2.key_inv, ← z2]
        exact .inl ⟨kvs, q, .inl eo', rfl, rfl⟩⟩
end
end Sh
set_option Elab.async false
set_option linter.all false
set_option maxRecDepth 100000
set_option maxHeartbeats 1000000
set_option autoImplicit false
/-! ShZ: comprehensions whose own names are cells (an inner comprehension reads them). -/
namespace Sh
open PySem PySem.Spec PyProof.Rows L2
structure SatB (F : CF) (scope : Scope) (X : Cx) : Prop extends SatG F X where
  cel : ∀ x, scope.names.lookup x = some .cell → X.fn x = true
section
variable {F : CF} {Γ : Ga} {W W1 W2 W3 : OW} {pos : Pos} {a b c e : Expr} {d d1 d2 d3 : D} {o : Out} {A : AE}
def Turn1S (F : CF) (S : Cx → Prop) (tg : Expr) (ifs : List Expr) (elt : Expr) (vs : List Nat) (Γ0 : Ga) (d : D) (W : OW) (acc : List D) (W' : OW) (acc' : List D) : Prop :=
  ∃ Γ1 ts, EG F S tg Γ0 d Γ1 ts ∧ (∀ t ∈ ts, t ∈ vs) ∧ ∃ r W1, ETs F ifs Γ1 W r W1 ∧ (r = true → ∃ y, EV F elt Γ1 W1 (.ok y) W' ∧ acc' = acc ++ [y]) ∧ (r = false → W1 = W' ∧ acc' = acc)
theorem lc_readS {S : Cx → Prop} {tg iter elt : Expr} {ifs : List Expr} {scope : Scope} {vs : List Nat} {ds : List D} {Wk : OW → Prop} (hi : EI F tg iter Γ W ds Wk W1) (acc : Nat → List D) (Ws : Nat → OW) (h0 : acc 0 = []) (hW0 : Ws 0 = W1) (hwk : ∀ i, i ≤ ds.length → Wk (Ws i))
    (hs : ∀ i d, ds[i]? = some d → Turn1S (F.blk scope) S tg ifs elt vs (wipeG Γ vs) d (Ws i) (acc i) (Ws (i + 1)) (acc (i + 1))) (hz : ds.length < sizeLine) {G H : Hp} {σ : L2.St} {Q : VK} (sl : Slots F.K G Γ σ) (hk : Hk F.K F.T G W H)
    (k : ∀ p G' H', H p = none → Step F.K F.T G W H G' ((p, .lst (acc ds.length)) :: Ws ds.length) H' → Q (.ref p) H') : tLc (cI F tg iter) (cG S tg) (cTs (F.blk scope) ifs) (cE (F.blk scope) elt) vs σ H Q := by
  have hacc : ∀ i, i ≤ ds.length → (acc i).length ≤ i := by
    intro i
    induction i with
    | zero => intro _; rw [h0]; exact Nat.le_refl _
    | succ i ih =>
      intro hi'
      obtain ⟨Γ1, ts, _, _, r, Wx, _, h1, h2⟩ := hs i ds[i] (List.getElem?_eq_getElem hi')
      have := ih (by omega)
      cases r with
      | true =>
        obtain ⟨y, _, e⟩ := h1 rfl
        rw [e, List.length_append, List.length_singleton]
        omega
      | false =>
        rw [(h2 rfl).2]
        omega
  refine hi G H σ _ sl hk fun J G1 H1 s1 wl D hD => ?_
  have s2 := s1.hk.allocO (w := .lst []) (o := .lst []) hD Rps.nil
  have hD0 := s1.back hD
  refine ⟨fun i m H' => m = ds.length - i ∧ i ≤ ds.length ∧ ∃ G', Step F.K F.T G W H G' (Ws i ++ [(D, .lst (acc i))]) H' ∧ Le G1 G', ⟨ds.length, by simp, Nat.zero_le _, G1, ?_, Le.refl _⟩, ?_⟩
  · rw [h0, hW0]
    refine (s1.trans s2).perm (List.Perm.refl _) ?_
    exact (List.perm_append_comm (l₁ := [(D, AO.lst [])]) (l₂ := W1))
  · rintro i m H' ⟨rfl, hil, G', st, le⟩
    have hkW : Hk F.K F.T G' (Ws i) H' := st.hk.less (List.sublist_append_left _ _)
    obtain ⟨w1, w2⟩ := wl G' (Ws i) H' le hkW (hwk i hil) i
    by_cases hlt : i < ds.length
    · obtain ⟨go, w3⟩ := w1 ds[i] (List.getElem?_eq_getElem hlt)
      refine .inr ⟨go, fun H2 => ∃ G2, Step F.K F.T G W H G2 (Ws (i + 1) ++ [(D, .lst (acc (i + 1)))]) H2 ∧ Le G1 G2, fun H2 q => ⟨ds.length - (i + 1), by omega, rfl, hlt, q⟩, fun x H2 y => ?_⟩
      obtain ⟨s3, y3⟩ := w3 x H2 y
      obtain ⟨Γ1, ts, hg, hts, r, Wx, ht, h1, h2⟩ := hs i ds[i] (List.getElem?_eq_getElem hlt)
      have st3 := st.trans (s3.more st.hk)
      refine hg G' H2 x (L2.wipe σ vs) _ ((sl.mono st.le).wipe vs) s3.hk.sub y3 fun σ2 sl2 bt => ⟨wipe_but bt hts, ?_⟩
      refine ht G' H2 σ2 _ sl2 s3.hk fun G3 H3 s4 => ?_
      have st4 := st3.trans (s4.more st3.hk)
      cases r with
      | true =>
        rw [if_pos rfl]
        obtain ⟨y, he, ea⟩ := h1 rfl
        refine he G3 H3 σ2 _ (sl2.mono s4.le) s4.hk fun v G4 H4 s5 rv => ?_
        have st5 := st4.trans (s5.more st4.hk)
        have hix : (Ws (i + 1) ++ [(D, AO.lst (acc i))])[(Ws (i + 1)).length]? = some (D, .lst (acc i)) := by
          rw [List.getElem?_append_right (Nat.le_refl _), Nat.sub_self]
          rfl
        obtain ⟨_, ob, eo, ro⟩ := st5.hk.own _ (List.mem_of_getElem? hix)
        obtain ⟨ws, rfl, ro⟩ := ro.lst_inv
        have hlen := hacc i hil
        refine ⟨ws, eo, by rw [ro.1]; omega, G4, ?_, (le.trans s4.le).trans s5.le⟩
        have s6 := st5.hk.write (w' := .lst (acc (i + 1))) (o' := .lst (ws ++ [v])) hix (by rw [ea]; exact ro.snoc rv) (fun c q e => by
          have eo' : H4 D = some (.lst ws) := eo
          rw [eo'] at e
          cases e)
        have e6 : (Ws (i + 1) ++ [(D, AO.lst (acc i))]).set (Ws (i + 1)).length (D, .lst (acc (i + 1))) = Ws (i + 1) ++ [(D, .lst (acc (i + 1)))] := by
          rw [List.set_append_right _ _ (Nat.le_refl _), Nat.sub_self]
          rfl
        rw [e6] at s6
        exact st5.trans s6
      | false =>
        rw [if_neg Bool.false_ne_true]
        obtain ⟨e1, e2⟩ := h2 rfl
        subst e1
        rw [e2]
        exact ⟨G3, st4, le.trans s4.le⟩
    · have e : i = ds.length := by omega
      subst e
      exact .inl ⟨w2 (Nat.le_refl _), k D G' H' hD0 (st.perm (List.Perm.refl _) List.perm_append_comm)⟩
theorem sat_b {scope : Scope} {X : Cx} (hX : Sat F X) (hN : F.N.Nodup) (s : Shared) (H : Hp) (C : Addr) (cl : List (Str × Addr)) (fp : List Addr) : SatB (F.blk scope) scope (X.blk s H scope (compEnvC scope cl C X.env) fp) :=
  ⟨⟨hX.blk scope s H C cl fp, by show X.N.Nodup; rw [hX.N]; exact hN⟩, fun x h => by show (scope.names.lookup x == some .cell) = true; rw [h]; rfl⟩
theorem en_lcS {tg iter elt : Expr} {ifs : List Expr} {scope : Scope} {own : List (Str × Nat)} {ds : List D} {Wk : OW → Prop} (hN : F.N.Nodup) (ok : blkC F.N F.sc scope own = true) (hi : EI F tg iter Γ W ds Wk W1) (acc : Nat → List D) (Ws : Nat → OW) (h0 : acc 0 = []) (hW0 : Ws 0 = W1) (hwk : ∀ i, i ≤ ds.length → Wk (Ws i))
    (hs : ∀ i d, ds[i]? = some d → Turn1S (F.blk scope) (SatB (F.blk scope) scope) tg ifs elt (own.map (·.2)) (wipeG Γ (own.map (·.2))) d (Ws i) (acc i) (Ws (i + 1)) (acc (i + 1))) (hz : ds.length < sizeLine) (hf : ∀ env x, foldedSetIterable iter env x = pure x := by intro _ _; rfl) :
    EN F (.ListComp elt [⟨tg, iter, ifs, 0⟩] scope pos) Γ W (acc ds.length) (Ws ds.length) :=
  fun G H σ Q sl hk k => ⟨tLc (cI F tg iter) (cG (SatB (F.blk scope) scope) tg) (cTs (F.blk scope) ifs) (cE (F.blk scope) elt) (own.map (·.2)), fun X hX => pe_lc hX.calm (by rw [hX.N]; exact hN) (cI_pi hX) (blkOk_by (by rw [hX.N, hX.sc]; exact ok))
      (fun s H C cl fp => cG_pg (sat_b hX hN s H C cl fp)) (fun s H C cl fp => cTs_pts (hX.blk scope s H C cl fp)) (fun s H C cl fp => cE_pe (hX.blk scope s H C cl fp)) (hf _),
    lc_readS hi acc Ws h0 hW0 hwk hs hz sl hk k⟩
/-- one turn: the item's image, or none -/
def TurnS (F : CF) (S : Cx → Prop) (tg : Expr) (ifs : List Expr) (elt : Expr) (vs : List Nat) (Γ0 : Ga) (W : OW) (d : D) (y : Option D) : Prop :=
  ∃ Γ1 ts, EG F S tg Γ0 d Γ1 ts ∧ (∀ t ∈ ts, t ∈ vs) ∧ ∃ r, ETs F ifs Γ1 W r W ∧ (r = true → ∃ z, EV F elt Γ1 W (.ok z) W ∧ y = some z) ∧ (r = false → y = none)
theorem TurnS.one {S : Cx → Prop} {tg elt : Expr} {ifs : List Expr} {ds : List D} {vs : List Nat} {Γ0 : Ga} {d : D} {y : Option D} {i : Nat} (h : TurnS F S tg ifs elt vs Γ0 W d y) (hd : ds[i]? = some d) (f : D → Option D) (e : f d = y) : Turn1S F S tg ifs elt vs Γ0 d W ((ds.take i).filterMap f) W ((ds.take (i + 1)).filterMap f) := by
  obtain ⟨Γ1, ts, h1, h2, r, h3, h4, h5⟩ := h
  have et : (ds.take (i + 1)).filterMap f = (ds.take i).filterMap f ++ (f d).toList := by
    rw [List.take_add_one, hd, List.filterMap_append]
    cases e2 : f d with
    | none => simp [List.filterMap_cons, e2]
    | some z => simp [List.filterMap_cons, e2]
  refine ⟨Γ1, ts, h1, h2, r, W, h3, fun q => ?_, fun q => ⟨rfl, ?_⟩⟩
  · obtain ⟨z, h6, h7⟩ := h4 q
    exact ⟨z, h6, by rw [et, e, h7]; rfl⟩
  · rw [et, e, h5 q]
    exact List.append_nil _
theorem turnS_map {S : Cx → Prop} {tg elt : Expr} {vs : List Nat} {Γ0 Γ1 : Ga} {d z : D} {ts : List Nat} (h1 : EG F S tg Γ0 d Γ1 ts) (h2 : ∀ t ∈ ts, t ∈ vs) (h3 : EV F elt Γ1 W (.ok z) W) : TurnS F S tg [] elt vs Γ0 W d (some z) :=
  ⟨Γ1, ts, h1, h2, true, ets_nil, fun _ => ⟨z, h3, rfl⟩, fun q => by cases q⟩
theorem turnS_if {S : Cx → Prop} {tg elt : Expr} {vs : List Nat} {Γ0 Γ1 : Ga} {d z : D} {ts : List Nat} {c : Expr} {r : Bool} (h1 : EG F S tg Γ0 d Γ1 ts) (h2 : ∀ t ∈ ts, t ∈ vs) (hc : ET F c Γ1 W (.ok r) W) (h3 : r = true → EV F elt Γ1 W (.ok z) W) : TurnS F S tg [c] elt vs Γ0 W d (if r then some z else none) :=
  ⟨Γ1, ts, h1, h2, r, ets_one hc, fun q => ⟨z, h3 q, by rw [q]; rfl⟩, fun q => by rw [q]; rfl⟩
/-- .. own names are cells, some of them -/
theorem en_lcFB {tg iter elt : Expr} {ifs : List Expr} {scope : Scope} {own : List (Str × Nat)} {ds : List D} {Wk : OW → Prop} (f : D → Option D) (hN : F.N.Nodup) (ok : blkC F.N F.sc scope own = true) (hi : EI F tg iter Γ W ds Wk W1) (hwk : Wk W1) (hs : ∀ d ∈ ds, TurnS (F.blk scope) (SatB (F.blk scope) scope) tg ifs elt (own.map (·.2)) (wipeG Γ (own.map (·.2))) W1 d (f d)) (hz : ds.length < sizeLine) (hf : ∀ env x, foldedSetIterable iter env x = pure x := by intro _ _; rfl) :
    EN F (.ListComp elt [⟨tg, iter, ifs, 0⟩] scope pos) Γ W (ds.filterMap f) W1 := by
  have := en_lcS (pos := pos) hN ok hi (fun i => (ds.take i).filterMap f) (fun _ => W1) rfl rfl (fun _ _ => hwk) (fun i d hd => (hs d (List.mem_of_getElem? hd)).one hd f rfl) hz hf
  rw [List.take_length] at this
  exact this
theorem en_lcMB {tg iter elt : Expr} {ifs : List Expr} {scope : Scope} {own : List (Str × Nat)} {ds : List D} {Wk : OW → Prop} (g : D → D) (hN : F.N.Nodup) (ok : blkC F.N F.sc scope own = true) (hi : EI F tg iter Γ W ds Wk W1) (hwk : Wk W1) (hs : ∀ d ∈ ds, TurnS (F.blk scope) (SatB (F.blk scope) scope) tg ifs elt (own.map (·.2)) (wipeG Γ (own.map (·.2))) W1 d (some (g d))) (hz : ds.length < sizeLine) (hf : ∀ env x, foldedSetIterable iter env x = pure x := by intro _ _; rfl) :
    EN F (.ListComp elt [⟨tg, iter, ifs, 0⟩] scope pos) Γ W (ds.map g) W1 :=
  (en_lcFB (fun d => some (g d)) hN ok hi hwk hs hz hf).to (by simp [List.filterMap_eq_map])
/-- a name of the block, a cell -/
theorem eg_cell {scope : Scope} (i : Nat) {x : Str} (hi : F.N[i]? = some x) (hx : F.sc.names.lookup x = some .cell) (hs : scope.names.lookup x = some .cell) (hd : ∀ ds, d = .pr ds → False := by intro _ h; cases h) : EG F (SatB F scope) (.Name x pos) Γ d (Γ.set i (some d)) [i] :=
  eg_name (fun X h => h.toSatG) i hi (.inr ⟨hx, fun X h => h.cel x hs⟩) hd
end
end Sh
set_option Elab.async false
set_option linter.all false
set_option maxRecDepth 100000
set_option maxHeartbeats 1000000
set_option autoImplicit false
/-! ShZa: x = [..] on one line, own names cells. -/
namespace Sh
open PySem PySem.Spec PyProof.Rows L2
section
variable {F : CF} {Γ : Ga} {W W1 : OW} {pos : Pos} {A : AE}
theorem s1_setLcS (j : Nat) {y : Str} {py spos : Pos} {tg iter elt : Expr} {ifs : List Expr} {scope : Scope} {own : List (Str × Nat)} {ds : List D} {Wk : OW → Prop} (hN : F.N.Nodup) (hj : F.N[j]? = some y) (hy : F.sc.names.lookup y = some .local) (hkd : F.sc.kind = .function) (hl : (py.line == pos.line) = true)
    (hnm : (scope.names.any fun (n, k) => n == y && (k == .local || k == .cell)) = false) (ok : blkC F.N F.sc scope own = true) (hi : EI F tg iter Γ W ds Wk W1) (acc : Nat → List D) (Ws : Nat → OW) (h0 : acc 0 = []) (hW0 : Ws 0 = W1) (hwk : ∀ i, i ≤ ds.length → Wk (Ws i))
    (hs : ∀ i d, ds[i]? = some d → Turn1S (F.blk scope) (SatB (F.blk scope) scope) tg ifs elt (own.map (·.2)) (wipeG Γ (own.map (·.2))) d (Ws i) (acc i) (Ws (i + 1)) (acc (i + 1))) (hz : ds.length < sizeLine)
    (hA : ∀ q, A.nx (Γ.set j (some (.ptr q))) ((q, .lst (acc ds.length)) :: Ws ds.length)) (hf : ∀ env x, foldedSetIterable iter env x = pure x := by intro _ _; rfl) :
    S1 F (.Assign [.Name y py] (.ListComp elt [⟨tg, iter, ifs, 0⟩] scope pos) spos) Γ W A :=
  fun G H σ De sl hk k => ⟨tAsg (tLc (cI F tg iter) (cG (SatB (F.blk scope) scope) tg) (cTs (F.blk scope) ifs) (cE (F.blk scope) elt) (List.map (fun z : Str × Nat => z.2) own)) (gName j), fun X hX => ps_setLc hX.calm hX.nd (by rw [hX.N]; exact hj) (by rw [hX.sc]; exact hy) (sw_true (by rw [hX.sc]; exact hkd) (by rw [hX.sc]; exact hy) hl hnm) (cI_pi hX.toSat) (blkOk_by (by rw [hX.N, hX.sc]; exact ok))
      (fun s H C cl fp => cG_pg (sat_b hX.toSat hN s H C cl fp)) (fun s H C cl fp => cTs_pts (hX.toSat.blk scope s H C cl fp)) (fun s H C cl fp => cE_pe (hX.toSat.blk scope s H C cl fp)) (hf _),
    lc_readS (Q := fun x H1 => gName j x σ H1 De.nx) hi acc Ws h0 hW0 hwk hs hz sl hk fun q G' H' _ s => k.nx _ _ G' H' _ (hA q) s ((sl.mono s.le).put j (.ptr q))⟩
theorem s1_setLcFB (j : Nat) (f : D → Option D) {y : Str} {py spos : Pos} {tg iter elt : Expr} {ifs : List Expr} {scope : Scope} {own : List (Str × Nat)} {ds : List D} {Wk : OW → Prop} (hN : F.N.Nodup) (hj : F.N[j]? = some y) (hy : F.sc.names.lookup y = some .local) (hkd : F.sc.kind = .function) (hl : (py.line == pos.line) = true)
    (hnm : (scope.names.any fun (n, k) => n == y && (k == .local || k == .cell)) = false) (ok : blkC F.N F.sc scope own = true) (hi : EI F tg iter Γ W ds Wk W1) (hwk : Wk W1) (hs : ∀ d ∈ ds, TurnS (F.blk scope) (SatB (F.blk scope) scope) tg ifs elt (own.map (·.2)) (wipeG Γ (own.map (·.2))) W1 d (f d)) (hz : ds.length < sizeLine)
    (hA : A.nx (Γ.set j (some (.lst (ds.filterMap f)))) W1) (hf : ∀ env x, foldedSetIterable iter env x = pure x := by intro _ _; rfl) :
    S1 F (.Assign [.Name y py] (.ListComp elt [⟨tg, iter, ifs, 0⟩] scope pos) spos) Γ W A := by
  refine S1.frozen (Γ0 := Γ) (j := j) (xs := ds.filterMap f) (W1 := W1) ?_ hA
  refine s1_setLcS j hN hj hy hkd hl hnm ok hi (fun i => (ds.take i).filterMap f) (fun _ => W1) rfl rfl (fun _ _ => hwk) (fun i d hd => (hs d (List.mem_of_getElem? hd)).one hd f rfl) hz (fun q => ⟨q, rfl, ?_⟩) hf
  rw [List.take_length]
end
end Sh
set_option Elab.async false
set_option linter.all false
set_option maxRecDepth 100000
set_option maxHeartbeats 1000000
set_option autoImplicit false
/-! ShZb: pairs as data, a thing equal to itself; what is left of lambdas. -/
namespace Sh
open PySem PySem.Spec PyProof.Rows L2
section
variable {α β : Type} [DecidableEq α] [DecidableEq β] {ok1 : α → Prop} {ok2 : β → Prop} {e1 : α → PyData} {e2 : β → PyData} {n m : Nat}
theorem Enc.pair (E1 : Enc ok1 e1 n) (E2 : Enc ok2 e2 m) : Enc (fun p : α × β => ok1 p.1 ∧ ok2 p.2) (fun p => .tuple [e1 p.1, e2 p.2]) (max n m + 1) := by
  refine ⟨fun p h => ?_, fun p => ?_, fun p q => ?_⟩
  · simp only [PyData.canLay0, PyData.canLayAll0, E1.lay _ h.1, E2.lay _ h.2]
    rfl
  · have h1 := E1.dep p.1
    have h2 := E2.dep p.2
    rw [PyData.depth, PyData.depthAll, PyData.depthAll, PyData.depthAll]
    omega
  · have h1 := E1.eq p.1 q.1
    have h2 := E2.eq p.2 q.2
    rw [PyData.eqv, PyData.eqvAll, PyData.eqvAll, PyData.eqvAll, h1, h2, Bool.and_true]
    by_cases e : p = q
    · subst e
      simp
    · rw [decide_eq_false e, Bool.and_eq_false_iff]
      by_cases e1 : p.1 = q.1
      · exact .inr (decide_eq_false fun w => e (Prod.ext e1 w))
      · exact .inl (decide_eq_false e1)
end
theorem LamW.sub {cl : List (Str × Addr)} {q : Str} : ∀ {es : List Expr} {ds : List D} {W W' : OW}, LamW cl q es ds W W' → ∀ p ∈ W, p ∈ W'
  | [], ds, W, W', h, p, hp => by
    obtain ⟨_, rfl⟩ := h
    exact hp
  | e :: es, ds, W, W', h, p, hp => by
    obtain ⟨f, w, ds', hv, rfl, h⟩ := h
    exact LamW.sub h p (List.mem_cons_of_mem _ hp)
theorem LamW.get {cl : List (Str × Addr)} {q : Str} : ∀ {es : List Expr} {ds : List D} {W W' : OW}, LamW cl q es ds W W' → ds.length = es.length ∧ ∀ (i : Nat) (d : D), ds[i]? = some d → ∃ (f : Addr) (e : Expr) (w : AO), d = D.ptr f ∧ (f, w) ∈ W' ∧ LamV cl q e f w ∧ e ∈ es
  | [], ds, W, W', h => by
    obtain ⟨rfl, rfl⟩ := h
    exact ⟨rfl, fun i d h => by simp at h⟩
  | e :: es, ds, W, W', h => by
    obtain ⟨f, w, ds', hv, rfl, h⟩ := h
    obtain ⟨h1, h2⟩ := LamW.get h
    refine ⟨by rw [List.length_cons, List.length_cons, h1], fun i d hd => ?_⟩
    cases i with
    | zero =>
      rw [List.getElem?_cons_zero] at hd
      cases hd
      exact ⟨f, e, w, rfl, LamW.sub h _ List.mem_cons_self, hv, List.mem_cons_self⟩
    | succ i =>
      rw [List.getElem?_cons_succ] at hd
      obtain ⟨f, e, w, q1, q2, q3, q4⟩ := h2 i d hd
      exact ⟨f, e, w, q1, q2, q3, List.mem_cons_of_mem _ q4⟩
/-- what is owned ahead stays as it lies, behind what is new -/
theorem LamW.tail {cl : List (Str × Addr)} {q : Str} : ∀ {es : List Expr} {ds : List D} {W W' : OW}, LamW cl q es ds W W' → ∃ L, W' = L ++ W
  | [], ds, W, W', h => by
    obtain ⟨_, rfl⟩ := h
    exact ⟨[], rfl⟩
  | e :: es, ds, W, W', h => by
    obtain ⟨f, w, ds', hv, rfl, h⟩ := h
    obtain ⟨L, rfl⟩ := LamW.tail h
    exact ⟨L ++ [(f, w)], by rw [List.append_assoc]; rfl⟩
section
variable {P : Program} {w : World} {K : PySem.W.Frag} {mg : Str → Option Value} {base : Heap} {T : Tb}
theorem FdR.imp {x : Str} {k j n : Nat} {S : LawR} (h : FdR P w K mg base T x k n S) (hk : k ≤ j) : FdR P w K mg base T x j n S := by
  obtain ⟨f, fd, ps, h1, h2, h3, h4, h5⟩ := h.ex
  exact ⟨f, fd, ps, h1, h2, h3, h4, h5.mono hk⟩
theorem Fd.up {x : Str} {k j n : Nat} {S : Law} (h : Fd P w K mg base T x k n S) (hk : k ≤ j) : Fd P w K mg base T x j n S := h.imp hk fun _ _ _ _ h => h
end
section
variable {F : CF} {Γ : Ga} {W W1 W2 : OW} {a b e : Expr} {d : D}
/-- less is known, and of what is owned too, from here on -/
theorem SS.weak {Γ' : Ga} {st : List Stmt} {A : AE} (h : SS F st Γ' W1 A) (l : Lq Γ Γ') (q : W1.Sublist W) : SS F st Γ W A := (h.less l).drop q
end
end Sh
set_option Elab.async false
set_option linter.all false
set_option maxRecDepth 100000
set_option maxHeartbeats 1000000
set_option autoImplicit false
/-! ShHd: what the top has left, told by names; the law's promise at the head. -/
namespace Sh
open PySem PySem.Spec PyProof.Rows L2
/-- a def of the module as a datum -/
def dfn (x : Str) (st : Stmt) : He.DefD := ⟨(x, none), x, x, defArgs st, defBody st, defScope st, [], []⟩
/-- a method of a class -/
def mtd (C m q : Str) (st : Stmt) : He.DefD := ⟨(C, some m), m, q, defArgs st, defBody st, defScope st, [], []⟩
theorem fun_of {K : PySem.W.Frag} {x q : Str} {st : Stmt} {f : Addr} {fd : FuncData} (h : FunD K x q (defArgs st) (defBody st) (defScope st) [] [] f fd) : Fun K x q st f fd := by
  obtain ⟨oc, od, dV, kV, doc, pm, an, cdv, ct, osl, e, lk, hc, hd, _⟩ := h.ex
  rcases hd with ⟨_, rfl⟩ | ⟨h, _⟩
  · exact ⟨⟨oc, od, kV, doc, pm, an, cdv, ct, osl, e, lk, hc⟩, h.kp⟩
  · exact absurd rfl h
/-- the tuple of the module's name, without a dict -/
def tupN (K : PySem.W.Frag) (x : Str) (vs : List He.Dv) : Bool := match K.lookup (He.ga K x) with
  | some ⟨.type c, none, .seq its _, _⟩ => decide (c = "tuple") && (decide (its.size ≤ sizeLine) && He.relAll (vs.map (He.Dv.v K)) its.toList)
  | _ => false
theorem tupK_of {K : PySem.W.Frag} {a : Addr} {vs : List V} (h : (match K.lookup a with
  | some ⟨.type c, none, .seq its _, _⟩ => decide (c = "tuple") && (decide (its.size ≤ sizeLine) && He.relAll vs its.toList)
  | _ => false) = true) (G : Hp) : TupK K G a vs := by
  cases q : K.lookup a with
  | none =>
    rw [q] at h
    cases h
  | some o =>
    obtain ⟨oc, od, dt, osl⟩ := o
    rw [q] at h
    cases oc with
    | type c =>
      cases od with
      | none =>
        cases dt with
        | seq its n =>
          obtain ⟨h1, h2⟩ := He.ba h
          obtain ⟨h3, h4⟩ := He.ba h2
          exact .inr ⟨_, its, n, q, congrArg Value.type (of_decide_eq_true h1), rfl, rfl, of_decide_eq_true h3, He.relAll_ok h4⟩
        | _ => cases h
      | some d => cases dt <;> cases h
    | _ => cases od <;> cases dt <;> cases h
theorem tupN_ok {K : PySem.W.Frag} {x : Str} {vs : List He.Dv} (h : tupN K x vs = true) (G : Hp) : TupK K G (He.ga K x) (vs.map (He.Dv.v K)) := tupK_of h G
inductive SLaw (K : PySem.W.Frag) (T : Tb) : Law
  | mk (q : Addr) (ns : List Int) (W : OW) (hS : Stands K T q (ns.map .int) W) : SLaw K T [.ptr q] W (.ok (.bl true)) []
theorem tb_start {T : Tb} {H : Hp} {cs : List (Addr × Addr)} (hH : ∀ p ∈ cs, H p.2 = some (.tbl #[])) (hg : ∀ P ∈ T.g, ∃ p ∈ cs, p.2 = P) (hl : ∀ q ∈ T.l, ∃ p ∈ cs, p.2 = q.1) : T.Ok (fun _ => none) H := by
  refine ⟨fun P hP => ?_, fun q hq => ?_, fun q hq ps e pos cv hc => ?_⟩
  · obtain ⟨p, hp, rfl⟩ := hg P hP
    exact ⟨#[], hH p hp, by trivial⟩
  · obtain ⟨p, hp, e⟩ := hl q hq
    refine ⟨#[], by rw [← e]; exact hH p hp, by trivial, fun pos cv hc => ?_⟩
    exact absurd hc (by simp [codeAmong])
  · obtain ⟨p, hp, e2⟩ := hl q hq
    rw [← e2, hH p hp] at e
    cases e
    exact absurd hc (by simp [codeAmong])
theorem sp_start {K : PySem.W.Frag} {T : Tb} {H : Hp} {cs : List (Addr × Addr)} {a : Addr} {ns : List Int} (hH : ∀ p ∈ cs, H p.2 = some (.tbl #[])) (hg : ∀ P ∈ T.g, ∃ p ∈ cs, p.2 = P) (hl : ∀ q ∈ T.l, ∃ p ∈ cs, p.2 = q.1) (hS : SqL K H a (ns.map V.int)) :
    spOf K T (SLaw K T) [.ref a] H (fun v _ => v = .bl true) fun _ _ _ => False := by
  have tb := tb_start hH hg hl
  have fin : ∀ W : OW, Hk K T (fun _ => none) W H → Stands K T a (ns.map .int) W → spOf K T (SLaw K T) [.ref a] H (fun v _ => v = .bl true) fun _ _ _ => False := fun W hk hs =>
    ⟨fun _ => none, W, [.ptr a], .ok (.bl true), [], hk, Rps.nil.cons (.ptr a), .mk a ns W hs, fun v G' H' _ r => r.bl_inv⟩
  have own : ∀ o : HO, H a = some o → (∀ ps, o ≠ .tbl ps) → (∀ H' : Hp, H' a = some o → SqL K H' a (ns.map V.int)) → spOf K T (SLaw K T) [.ref a] H (fun v _ => v = .bl true) fun _ _ _ => False := fun o ho nt hs => by
    refine fin [(a, .raw o)] ⟨fun b u e => (by cases e), fun b ps e => (by cases e), (by simp), fun p hp => ?_, tb⟩ fun G H' hk => ?_
    · rw [List.mem_singleton] at hp
      subst hp
      refine ⟨rfl, o, ho, ?_⟩
      cases o <;> exact ⟨rfl, nt⟩
    · obtain ⟨_, u, e, r⟩ := hk.own (a, .raw o) List.mem_cons_self
      have e : H' a = some u := e
      rw [r.raw_inv] at e
      exact hs H' e
  rcases hS with h | h
  · rcases h with h | ⟨o, h⟩
    · exact own _ h (fun ps e => by cases e) fun H' e => .inl (.inl e)
    · exact own _ h (fun ps e => by cases e) fun H' e => .inl (.inr ⟨o, e⟩)
  · exact fin [] ⟨fun b u e => (by cases e), fun b ps e => (by cases e), List.nodup_nil, fun p hp => (by cases hp), tb⟩ fun G H' _ => .inr h
theorem law_at {l : PySem.W.OpenLaw} {w : World} {K : PySem.W.Frag} {mg : Str → Option Value} {fa : Addr} {h : Heap} {k : Nat} {T : Tb} {cs : List (Addr × Addr)} {fd : FuncData} (hT : ∀ p ∈ cs, h.get? p.2 = some { cls := .none, data := .fields #[] }) (nT : ∀ p ∈ cs, K.lookup p.2 = none) (C : ∀ p ∈ cs, PySem.W.CodeHd h p.1 p.2)
    (hg : ∀ P ∈ T.g, ∃ p ∈ cs, p.2 = P) (hl : ∀ q ∈ T.l, ∃ p ∈ cs, p.2 = q.1) (hb : ∀ (s : Shared) (u : Value), BindsTo s fd ⟨[u], []⟩ [("script", u)])
    (hF : ∀ base : Heap, K.In base → base.Ns mainGlobals mg → (∀ p ∈ cs, LamX.TabB base mg p.1 p.2) → FnOk l.prog w K mg base (L2.CX l.prog w) k fa fd ["script"] (spOf K T (SLaw K T))) : LamX.LawAtS l w K (L2.CX l.prog w) k 63 "script" mg fa h :=
  ⟨fd, cs, spOf K T (SLaw K T), hT, nT, C, hb, fun H a ns _ _ hH hS => sp_start hH hg hl hS, hF⟩
theorem cx_none {P : Program} {w : World} {H : Hp} {s : Shared} {e : Value} {s' : Shared} (h : L2.CX P w [] H s (fun _ _ _ => False) e s') : False := by
  obtain ⟨_, _, _, _, _, _, _, _, _, _, _, _, h⟩ := h
  exact h
theorem gtab {base : Heap} {mg : Str → Option Value} {c P : Addr} (h : LamX.TabB base mg c P) : GxR.TabB base mg c P := ⟨h.code, h.bm, h.gP⟩
section
variable {P : Program} {w : World} {K : PySem.W.Frag} {mg : Str → Option Value} {base : Heap} {T : Tb}
/-- a def's law from its walk -/
theorem Fd.mk2 {x : Str} {st : Stmt} {f : Addr} {fd : FuncData} {k n : Nat} {S : Law} {ps : List Str} (Fu : Fun K x x st f fd) (hg : mg x = some (.ref f)) (ok : FnOk P w K mg base (L2.CX P w) k f fd ps (spOf K T S))
    (hb : ∀ (kV doc pm : Value) (an : Option Addr) (cdv ct : Value) (us : List Value), us.length = ps.length → bindArgs (PySem.W.fnOf x x (defArgs st) (defBody st) (defScope st) .none kV doc pm an cdv ct) ⟨us, []⟩ = pure (ps.zip us)) (hn : ps.length = n := by rfl) : Fd P w K mg base T x k n S :=
  ⟨f, fd, ps, hg, Fu.kp, Fu.binds hb, hn, ok⟩
theorem FdR.mk2 {x : Str} {st : Stmt} {f : Addr} {fd : FuncData} {k n : Nat} {S : LawR} {ps : List Str} (Fu : Fun K x x st f fd) (hg : mg x = some (.ref f)) (ok : FnOk P w K mg base (L2.CX P w) k f fd ps (spOfR K T S))
    (hb : ∀ (kV doc pm : Value) (an : Option Addr) (cdv ct : Value) (us : List Value), us.length = ps.length → bindArgs (PySem.W.fnOf x x (defArgs st) (defBody st) (defScope st) .none kV doc pm an cdv ct) ⟨us, []⟩ = pure (ps.zip us)) (hn : ps.length = n := by rfl) : FdR P w K mg base T x k n S :=
  ⟨f, fd, ps, hg, Fu.kp, Fu.binds hb, hn, ok⟩
/-- a def's code object -/
theorem code_of {x q : Str} {st : Stmt} {f : Addr} {fd : FuncData} (Fu : Fun K x q st f fd) {p : Str × Option Str} (hf : He.fAd K p = f) : fd.code = .ref (He.codeOf K p) := by
  obtain ⟨oc, od, kV, doc, pm, an, cdv, ct, osl, rfl, lk, hc⟩ := Fu.ex
  obtain ⟨c, rfl⟩ := He.codeIn_ref hc
  rw [He.codeOf_eq (p := p) (by rw [hf]; exact lk) rfl]
theorem xc_of {h : Heap} (X : K.In h) (G : h.Ns mainGlobals mg) {x : Str} (c1 : (He.Fa.glo x).ok K = true) (c2 : (He.Fa.exc x).ok K = true) : XC K mg x (He.ga K x) := by
  obtain ⟨h1, h2, h3, h4⟩ := He.exc_ok c2
  exact ⟨He.glo_ok X G c1, h1, h2, h3, h4⟩
theorem told_of {x a e ret : Str} {st : Stmt} {g CS : Addr} {fd : FuncData} {j : Nat} {p1 p2 p3 p4 p5 p6 p7 p8 : Pos} (Fu : Fun K x x st g fd) (hg : mg x = some (.ref g))
    (hbd : defBody st = [.Try [.Return (some (.Call (.Name a p1) [] [] p2)) p3] [.ExceptHandler (some (.Name e p4)) none [.Return (some (.Constant (.str ret) j p5)) p6] p7] [] [] p8])
    (Sc : FnScope [a] [a] (defScope st)) (hv : L2.Vis (defScope st) a) (he : (defScope st).names.lookup e = some .globalImplicit) (hE : mg e = some (.ref CS))
    (hb : ∀ (kV doc pm : Value) (an : Option Addr) (cdv ct : Value) (us : List Value), us.length = [a].length → bindArgs (PySem.W.fnOf x x (defArgs st) (defBody st) (defScope st) .none kV doc pm an cdv ct) ⟨us, []⟩ = pure ([a].zip us))
    (h1 : (e == ("__debug__" : Str)) = false := by decide) (h2 : (a == ("__debug__" : Str)) = false := by decide) (h3 : (a == ("__classdict__" : Str)) = false := by decide) : Told P w K mg x CS ret := by
  have hbi := Fu.binds hb
  obtain ⟨oc, od, kV, doc, pm, an, cdv, ct, osl, rfl, lk, hc⟩ := Fu.ex
  exact ⟨g, a, e, _, _, _, _, kV, doc, pm, cdv, ct, oc, an, od, osl, [a], j, p1, p2, p3, p4, p5, p6, p7, p8, hg, Fu.kp, lk, hc, hbi, Sc, rfl, hv, hbd, he, hE, h1, h2, h3, fun f => rfl⟩
theorem binds_one {x y : Str} {st : Stmt} {f : Addr} {fd : FuncData} (Fu : Fun K x x st f fd) (h : ∀ (kV doc pm : Value) (an : Option Addr) (cdv ct u : Value), bindArgs (PySem.W.fnOf x x (defArgs st) (defBody st) (defScope st) .none kV doc pm an cdv ct) ⟨[u], []⟩ = pure [(y, u)]) (s : Shared) (u : Value) : BindsTo s fd ⟨[u], []⟩ [(y, u)] := by
  obtain ⟨oc, od, kV, doc, pm, an, cdv, ct, osl, rfl, lk, hc⟩ := Fu.ex
  exact .of_eq (h kV doc pm an cdv ct u)
/-- the facts of a def with a table -/
theorem tab_of {x : Str} {st : Stmt} {fd : FuncData} {tf : List He.Defn} (Fu : Fun K x x st (He.ga K x) fd) (TB : ∀ p ∈ tf.map (He.cT K), LamX.TabB base mg p.1 p.2) (hx : (x, none) ∈ tf) (hg : (He.cT K (x, none)).2 ∈ T.g) (hl : (He.cT K (x, none)).2 ∉ T.l.map (·.1)) :
    fd.code = .ref (He.codeOf K (x, none)) ∧ GxR.TabB base mg (He.codeOf K (x, none)) (He.cT K (x, none)).2 ∧ (He.cT K (x, none)).2 ∈ T.g ∧ (He.cT K (x, none)).2 ∉ T.l.map (·.1) :=
  ⟨code_of Fu (p := (x, none)) rfl, gtab (TB _ (List.mem_map_of_mem hx)), hg, hl⟩
end
end Sh
set_option Elab.async false
set_option linter.all false
set_option maxRecDepth 100000
set_option maxHeartbeats 2000000
set_option autoImplicit false
namespace K1
open PySem PySem.Spec PyProof.Rows L2 Sh
def topS (i : Nat) : Stmt := PySem.Challenge.pw_shufflestack_k01_decks_and_hands.main.body.getD i (.Pass ⟨0, 0, 0, 0⟩)
abbrev st_check_card : Stmt := topS 6
theorem sc_check_card : FnScope ["card"] ["card"] (defScope st_check_card) := ⟨rfl, rfl, rfl, by decide +kernel, rfl, by decide +kernel, by decide +kernel⟩
def ranksL : List Nat := ("A23456789TJQK" : Str).cps.toList
def suitsL : List Nat := ("CDHS" : Str).cps.toList
def okc (z : Str) : Bool := match z.cps.toList with
  | [a, b] => decide (a ∈ ranksL) && decide (b ∈ suitsL)
  | _ => false
/-- what the module's names stand for -/
structure Deck (K : PySem.W.Frag) (mg : Str → Option Value) (CD : Addr) : Prop where
  len : mg "len" = none
  ranks : ∃ t, mg "RANKS" = some (.str "A23456789TJQK" t)
  suits : ∃ t, mg "SUITS" = some (.str "CDHS" t)
  err : XC K mg "DeckError" CD
inductive SChk (CD : Addr) : Law
  | ok (z : Str) (hz : z.length ≤ 1000) (h : okc z = true) : SChk CD [.str z] [] (.ok .non) []
  | er (z : Str) (hz : z.length ≤ 1000) (h : okc z = false) : SChk CD [.str z] [] (.er CD) []
section
variable {P : Program} {w : World} {K : PySem.W.Frag} {mg : Str → Option Value} {base : Heap} {T : Tb} {CD : Addr}
theorem ok_check_card {f : Addr} {fd : FuncData} {k : Nat} (D : Deck K mg CD) (Fu : Fun K "check_card" "check_card" st_check_card f fd) : FnOk P w K mg base (L2.CX P w) (k + 1) f fd ["card"] (spOf K T (SChk CD)) := by
  refine fn_def Fu sc_check_card (fun ds W o W' h => by cases h <;> rfl) fun cl E ds W o W' h => ?_
  obtain ⟨t1, hr⟩ := D.ranks
  obtain ⟨t2, hs⟩ := D.suits
  have key : ∀ z : Str, z.length ≤ 1000 → ∃ r, r = (!okc z) ∧ ET ⟨P, w, K, mg, base, ["card"], defScope st_check_card, k, fd.code, E, T, "check_card" ++ ".<locals>.", some cl⟩ (match defBody st_check_card with | [.If c _ _ _] => c | _ => .Constant .none 0 ⟨0,0,0,0⟩) [some (.str z)] [] (.ok r) [] := by
    intro z hz
    have hl : z.length = z.cps.toList.length := by simp [Str.length]
    have hzl : z.length ≤ sizeLine := Nat.le_trans hz (by decide)
    have vc : ∀ {G : CF} {p : Pos}, G.N = [("card" : Str)] → G.sc = defScope st_check_card → EV G (.Name "card" p) [some (.str z)] [] (.ok (.str z)) [] := fun {G p} h1 h2 => ev_var 0 (by rw [h1]; rfl) (by rw [h2]; exact .inl rfl) rfl
    by_cases h2 : z.cps.toList.length = 2
    · obtain ⟨a, b, e⟩ : ∃ a b, z.cps.toList = [a, b] := by
        match z.cps.toList, h2 with
        | [a, b], _ => exact ⟨a, b, rfl⟩
      refine ⟨_, ?_, et_w (ew_or (et_cmpR (ev_len (by rfl) D.len (vc rfl rfl) (.str z hzl)) ev_int (.neI _ _)) fun _ => ew_or (et_cmpR (ev_ix (vc rfl rfl) ev_int (.str hzl (c := a) (by rw [e]; rfl))) (ev_globS (by rfl) hr) (.niS a _)) fun _ => ew_or1 (et_cmpR (ev_ix (vc rfl rfl) ev_int (.str hzl (c := b) (by rw [e]; rfl))) (ev_globS (by rfl) hs) (.niS b _)))⟩
      unfold okc
      rw [e, hl, h2]
      simp [ranksL, suitsL]
    · refine ⟨true, ?_, et_w (ew_orT ?_)⟩
      · unfold okc
        split
        · rename_i a b e
          rw [e] at h2
          exact absurd rfl h2
        · rfl
      · have h3 : (!decide ((z.length : Int) = 2)) = true := by
          rw [hl, decide_eq_false (fun q => h2 (by omega))]
          rfl
        exact ET.to (et_cmpR (ev_len (by rfl) D.len (vc rfl rfl) (.str z hzl)) ev_int (.neI _ _)) h3
  cases h with
  | ok z hz h =>
    obtain ⟨r, e, q⟩ := key z hz
    rw [h] at e
    subst e
    refine ss_one (s1_ifF q (ss_nil ⟨rfl, .refl _⟩))
  | er z hz h =>
    obtain ⟨r, e, q⟩ := key z hz
    rw [h] at e
    subst e
    refine ss_one (s1_ifT q (ss_one (s1_raise D.err (by rfl) ⟨rfl, .refl _⟩)))
end
end K1
set_option Elab.async false
set_option linter.all false
set_option maxRecDepth 100000
set_option maxHeartbeats 2000000
set_option autoImplicit false
namespace K1
open PySem PySem.Spec PyProof.Rows L2 Sh
abbrev st_full_deck : Stmt := topS 7
theorem sc_full_deck : FnScope ["found", "suit", "rank"] [] (defScope st_full_deck) := ⟨rfl, rfl, rfl, by decide +kernel, rfl, by decide +kernel, by decide +kernel⟩
def cardS (r s : Nat) : Str := ⟨#[r, s]⟩
def deckS : List Str := suitsL.flatMap fun s => ranksL.map fun r => cardS r s
def deckD : List D := deckS.map D.str
inductive SDeck : Law
  | ok : SDeck [] [] (.ok (.tup deckD)) []
section
variable {P : Program} {w : World} {K : PySem.W.Frag} {mg : Str → Option Value} {base : Heap} {T : Tb} {CD : Addr}
theorem ok_full_deck {f : Addr} {fd : FuncData} {k : Nat} (D : Deck K mg CD) (htup : mg "tuple" = none) (Fu : Fun K "full_deck" "full_deck" st_full_deck f fd) : FnOk P w K mg base (L2.CX P w) (k + 1) f fd [] (spOf K T SDeck) := by
  refine fn_def Fu sc_full_deck (fun ds W o W' h => by cases h <;> rfl) fun cl E ds W o W' h => ?_
  obtain ⟨t1, hr⟩ := D.ranks
  obtain ⟨t2, hs⟩ := D.suits
  cases h
  refine ss_cons (s1_set 0 rfl (.inl rfl) (evr_new (en_lst ea_nil (by decide)) fun q => ?_))
  refine ss_cons (s1_for (ei_str (ev_globS (by rfl) hs)) (fun i Γ' W' => (∃ x y, Γ' = [some (.ptr q), x, y]) ∧ W' = [(q, .lst (((suitsL.take i).flatMap fun s => ranksL.map fun r => cardS r s).map Sh.D.str))]) ⟨⟨_, _, rfl⟩, rfl⟩ (fun _ _ _ _ => trivial) (fun i d Γ' W' hd hI => ?_) (fun Γ' W' hI => ?_))
  · obtain ⟨⟨x, y, rfl⟩, rfl⟩ := hI
    rw [List.getElem?_map] at hd
    obtain ⟨c, hc, rfl⟩ : ∃ c, suitsL[i]? = some c ∧ d = .str ⟨#[c]⟩ := by
      cases e : ("CDHS" : Str).cps.toList[i]? with
      | none => rw [e] at hd; cases hd
      | some c => rw [e] at hd; cases hd; exact ⟨c, e, rfl⟩
    refine ⟨_, _, eg_name (fun X h => h.toG) 1 rfl (.inr ⟨rfl, fun X h => h.fn _⟩), ss_one (s1_augN 0 0 rfl (.inl rfl) rfl (en_lcM (own := [("rank", 2)]) (fun d => match d with | .str z => .str (z ++ ⟨#[c]⟩) | d => d) sc_full_deck.nd (by rfl) (ei_str (ev_globS (by rfl) hr)) trivial (fun d hd => ?_) (by decide)) rfl ?_ ?_)⟩
    · obtain ⟨r, _, rfl⟩ := List.mem_map.mp hd
      exact turn_map (eg_name (fun X h => h) 2 rfl (.inl (by rfl))) (by decide) (ev_bin (ev_var 2 rfl (.inl (by rfl)) rfl) (ev_var 1 rfl (.inr (.inl (by rfl))) rfl) (.addS _ _ (show 1 + 1 ≤ sizeLine by decide)))
    · have hi : i < 4 := (List.getElem?_eq_some_iff.mp hc).1
      have : ∀ i < 4, (((suitsL.take i).flatMap fun s => ranksL.map fun r => cardS r s).map Sh.D.str).length + 13 ≤ sizeLine := by decide
      exact this i hi
    · refine ⟨⟨_, _, rfl⟩, ?_⟩
      show [(q, AO.lst _)] = [(q, AO.lst _)]
      rw [List.take_add_one, hc, List.flatMap_append, List.map_append]
      rfl
  · obtain ⟨⟨x, y, rfl⟩, rfl⟩ := hI
    refine ss_one (s1_ret (evr_of (ev_tupleL (by rfl) htup (ev_var 0 rfl (.inl rfl) rfl) (.own 0 rfl)) ⟨?_, .nil _⟩))
    rfl
end
end K1
set_option Elab.async false
set_option linter.all false
set_option maxRecDepth 100000
set_option maxHeartbeats 2000000
set_option autoImplicit false
namespace K1
open PySem PySem.Spec PyProof.Rows L2 Sh
abbrev st_rank_of : Stmt := topS 8
abbrev st_is_red : Stmt := topS 9
abbrev st_check_row : Stmt := topS 10
theorem sc_rank_of : FnScope ["card"] ["card"] (defScope st_rank_of) := ⟨rfl, rfl, rfl, by decide +kernel, rfl, by decide +kernel, by decide +kernel⟩
theorem sc_is_red : FnScope ["card"] ["card"] (defScope st_is_red) := ⟨rfl, rfl, rfl, by decide +kernel, rfl, by decide +kernel, by decide +kernel⟩
theorem sc_check_row : FnScope ["cards", "card"] ["cards"] (defScope st_check_row) := ⟨rfl, rfl, rfl, by decide +kernel, rfl, by decide +kernel, by decide +kernel⟩
/-- a card's rank, from 1; its suit -/
def rkN (z : Str) : Nat := ranksL.idxOf (z.cps.toList.getD 0 0) + 1
def redB (z : Str) : Bool := decide (z.cps.toList.getD 1 0 ∈ ("DH" : Str).cps.toList)
theorem okc_two {z : Str} (h : okc z = true) : ∃ a b, z.cps.toList = [a, b] ∧ a ∈ ranksL ∧ b ∈ suitsL := by
  unfold okc at h
  split at h
  · rename_i a b e
    simp only [Bool.and_eq_true, decide_eq_true_eq] at h
    exact ⟨a, b, e, h.1, h.2⟩
  · cases h
theorem okc_len {z : Str} (h : okc z = true) : z.length = 2 := by
  obtain ⟨a, b, e, _⟩ := okc_two h
  have : z.length = z.cps.toList.length := by simp [Str.length]
  rw [this, e]
  rfl
theorem okc_strOk {z : Str} (h : okc z = true) : PyData.strOk z = true := by
  obtain ⟨a, b, e, h1, h2⟩ := okc_two h
  have h3 : ∀ a ∈ ranksL, decide (a < 0x110000) = true := by decide
  have h4 : ∀ b ∈ suitsL, decide (b < 0x110000) = true := by decide
  unfold PyData.strOk
  rw [← Array.all_toList, e]
  simp only [List.all_cons, List.all_nil, Bool.and_true]
  rw [h3 a h1, h4 b h2]
  rfl
theorem rk_occ : ∀ a ∈ ranksL, (Builtin.Str.occurrences "A23456789TJQK" ⟨#[a]⟩ 0 ("A23456789TJQK" : Str).length 1).head? = some (ranksL.idxOf a) := by decide +kernel
inductive SRank (CD : Addr) : Law
  | ok (z : Str) (h : okc z = true) : SRank CD [.str z] [] (.ok (.int (rkN z : Nat))) []
  | er (z : Str) (hz : z.length ≤ 1000) (h : okc z = false) : SRank CD [.str z] [] (.er CD) []
inductive SRed (CD : Addr) : Law
  | ok (z : Str) (h : okc z = true) : SRed CD [.str z] [] (.ok (.bl (redB z))) []
  | er (z : Str) (hz : z.length ≤ 1000) (h : okc z = false) : SRed CD [.str z] [] (.er CD) []
section
variable {P : Program} {w : World} {K : PySem.W.Frag} {mg : Str → Option Value} {base : Heap} {T : Tb} {CD : Addr}
theorem ok_rank_of {f : Addr} {fd : FuncData} {k : Nat} (D : Deck K mg CD) (hck : Fd P w K mg base T "check_card" k 1 (SChk CD)) (Fu : Fun K "rank_of" "rank_of" st_rank_of f fd) : FnOk P w K mg base (L2.CX P w) (k + 1) f fd ["card"] (spOf K T (SRank CD)) := by
  refine fn_def Fu sc_rank_of (fun ds W o W' h => by cases h <;> rfl) fun cl E ds W o W' h => ?_
  obtain ⟨t1, hr⟩ := D.ranks
  cases h with
  | ok z h =>
    obtain ⟨a, b, e, h1, h2⟩ := okc_two h
    have hl := okc_len h
    obtain ⟨rest, hocc⟩ : ∃ rest, Builtin.Str.occurrences "A23456789TJQK" ⟨#[a]⟩ 0 ("A23456789TJQK" : Str).length 1 = ranksL.idxOf a :: rest := by
      have := rk_occ a h1
      match hq : Builtin.Str.occurrences "A23456789TJQK" ⟨#[a]⟩ 0 ("A23456789TJQK" : Str).length 1, this with
      | x :: rest, this =>
        rw [List.head?_cons] at this
        exact ⟨rest, by rw [Option.some.inj this]⟩
    refine ss_cons (s1_expr (evr_of (ev_pure hck (Nat.le_refl _) (by rfl) (ea_cons (ev_var 0 rfl (.inl rfl) rfl) ea_nil) (.ok z (by omega) h)) ?_))
    refine ss_one (s1_ret (evr_of (ev_bin (ev_sindex (ev_globS (by rfl) hr) (ev_ix (ev_var 0 rfl (.inl rfl) rfl) ev_int (.str (Nat.le_trans (by omega : z.length ≤ 1000) (by decide)) (c := a) (by rw [e]; rfl))) hocc) ev_int (.addI _ _)) ⟨?_, .nil _⟩))
    unfold rkN
    rw [e]
    rfl
  | er z hz h => exact ss_cons (s1_exprE (ev_pure hck (Nat.le_refl _) (by rfl) (ea_cons (ev_var 0 rfl (.inl rfl) rfl) ea_nil) (.er z hz h)) ⟨rfl, .nil _⟩)
theorem ok_is_red {f : Addr} {fd : FuncData} {k : Nat} (D : Deck K mg CD) (hck : Fd P w K mg base T "check_card" k 1 (SChk CD)) (Fu : Fun K "is_red" "is_red" st_is_red f fd) : FnOk P w K mg base (L2.CX P w) (k + 1) f fd ["card"] (spOf K T (SRed CD)) := by
  refine fn_def Fu sc_is_red (fun ds W o W' h => by cases h <;> rfl) fun cl E ds W o W' h => ?_
  cases h with
  | ok z h =>
    obtain ⟨a, b, e, h1, h2⟩ := okc_two h
    have hl := okc_len h
    refine ss_cons (s1_expr (evr_of (ev_pure hck (Nat.le_refl _) (by rfl) (ea_cons (ev_var 0 rfl (.inl rfl) rfl) ea_nil) (.ok z (by omega) h)) ?_))
    refine ss_one (s1_ret (evr_of (ev_cmpR (ev_ix (ev_var 0 rfl (.inl rfl) rfl) ev_int (.str (Nat.le_trans (by omega : z.length ≤ 1000) (by decide)) (c := b) (by rw [e]; rfl))) ev_str (.inS b _)) ⟨?_, .nil _⟩))
    unfold redB
    rw [e]
    rfl
  | er z hz h => exact ss_cons (s1_exprE (ev_pure hck (Nat.le_refl _) (by rfl) (ea_cons (ev_var 0 rfl (.inl rfl) rfl) ea_nil) (.er z hz h)) ⟨rfl, .nil _⟩)
end
end K1
set_option Elab.async false
set_option linter.all false
set_option maxRecDepth 100000
set_option maxHeartbeats 2000000
set_option autoImplicit false
namespace K1
open PySem PySem.Spec PyProof.Rows L2 Sh
def rowOk (zs : List Str) : Bool := zs.all okc && decide zs.Nodup
def shortRow (zs : List Str) : Prop := zs.length ≤ 1000 ∧ ∀ z ∈ zs, z.length ≤ 1000
inductive SRow (CD : Addr) : Law
  | ok (d : D) (zs : List Str) (hd : SeqF d (zs.map .str)) (hz : shortRow zs) (h : rowOk zs = true) : SRow CD [d] [] (.ok .non) []
  | er (d : D) (zs : List Str) (hd : SeqF d (zs.map .str)) (hz : shortRow zs) (h : rowOk zs = false) : SRow CD [d] [] (.er CD) []
def kfS : D → Key
  | .str z => .inr z
  | _ => .inl 0
theorem nodup_kf (zs : List Str) : ((zs.map D.str).map kfS).Nodup ↔ zs.Nodup := by
  rw [List.map_map]
  constructor
  · exact fun h => (List.pairwise_map.mp h).imp fun {a b} hab e => hab (by rw [e])
  · exact fun h => List.pairwise_map.mpr (h.imp fun {a b} hab e => hab (by
      have : (Sum.inr a : Key) = .inr b := e
      exact Sum.inr.inj this))
section
variable {P : Program} {w : World} {K : PySem.W.Frag} {mg : Str → Option Value} {base : Heap} {T : Tb} {CD : Addr}
theorem ok_check_row {f : Addr} {fd : FuncData} {k : Nat} (D : Deck K mg CD) (hck : Fd P w K mg base T "check_card" k 1 (SChk CD)) (Fu : Fun K "check_row" "check_row" st_check_row f fd) : FnOk P w K mg base (L2.CX P w) (k + 1) f fd ["cards"] (spOf K T (SRow CD)) := by
  refine fn_def Fu sc_check_row (fun ds W o W' h => by cases h <;> rfl) fun cl E ds W o W' h => ?_
  obtain ⟨d, zs, hd, hz, e1, e2, e3, hout⟩ : ∃ d zs, SeqF d (zs.map Sh.D.str) ∧ shortRow zs ∧ ds = [d] ∧ W = [] ∧ W' = [] ∧ ((rowOk zs = true ∧ o = .ok .non) ∨ (rowOk zs = false ∧ o = .er CD)) := by
    cases h with
    | ok d zs hd hz h => exact ⟨d, zs, hd, hz, rfl, rfl, rfl, .inl ⟨h, rfl⟩⟩
    | er d zs hd hz h => exact ⟨d, zs, hd, hz, rfl, rfl, rfl, .inr ⟨h, rfl⟩⟩
  subst e1 e2 e3
  have hbad : rowOk zs = false → o = .er CD := fun e => by
    rcases hout with ⟨q, _⟩ | ⟨_, q⟩
    · rw [e] at q; cases q
    · exact q
  refine ss_cons (s1_for (ei_seq (ev_var 0 rfl (.inl rfl) rfl) hd) (fun i Γ' W' => (∃ x, Γ' = [some d, x]) ∧ W' = [] ∧ ∀ z ∈ zs.take i, okc z = true) ⟨⟨_, rfl⟩, rfl, fun z hz => by simp at hz⟩ (fun _ _ _ _ => trivial) (fun i dd Γ' W' hdd hI => ?_) (fun Γ' W' hI => ?_))
  · obtain ⟨⟨x, rfl⟩, rfl, hall⟩ := hI
    rw [List.getElem?_map] at hdd
    obtain ⟨z, hzi, rfl⟩ : ∃ z, zs[i]? = some z ∧ dd = .str z := by
      cases e : zs[i]? with
      | none => rw [e] at hdd; cases hdd
      | some z => rw [e] at hdd; cases hdd; exact ⟨z, rfl, rfl⟩
    have hmem := List.mem_of_getElem? hzi
    refine ⟨_, _, eg_name (fun X h => h.toG) 1 rfl (.inl rfl), ss_one ?_⟩
    cases hok : okc z with
    | true =>
      refine s1_expr (evr_of (ev_pure hck (Nat.le_refl _) (by rfl) (ea_cons (ev_var 1 rfl (.inl rfl) rfl) ea_nil) (.ok z (hz.2 z hmem) hok)) ⟨⟨_, rfl⟩, rfl, fun y hy => ?_⟩)
      rw [List.take_add_one, hzi] at hy
      rcases List.mem_append.mp hy with h1 | h1
      · exact hall y h1
      · have : y = z := by simpa using h1
        rw [this]; exact hok
    | false =>
      have ho : o = .er CD := hbad (by
        unfold rowOk
        rw [show zs.all okc = false from Bool.eq_false_iff.mpr fun q => by
          have := List.all_eq_true.mp q z hmem
          rw [hok] at this; cases this]
        rfl)
      exact s1_exprE (ev_pure hck (Nat.le_refl _) (by rfl) (ea_cons (ev_var 1 rfl (.inl rfl) rfl) ea_nil) (.er z (hz.2 z hmem) hok)) ⟨ho, .nil _⟩
  · obtain ⟨⟨x, rfl⟩, rfl, hall⟩ := hI
    rw [List.length_map, List.take_length] at hall
    have hA : zs.all okc = true := List.all_eq_true.mpr hall
    have hsz : zs.length < sizeLine := Nat.lt_of_le_of_lt hz.1 (by decide)
    have hlen := fold_len kfS (fun _ => Sh.D.bl true) (zs.map Sh.D.str)
    have hiff := keys_lt_iff ((zs.map Sh.D.str).map kfS)
    rw [nodup_kf, List.length_map, List.length_map] at hiff
    refine ss_one (s1_if (r := !decide zs.Nodup) (ET.to (et_cmpR
      (ev_lenN (by rfl) D.len (en_dcM (own := [("card", 1)]) kfS (fun _ => .bl true) sc_check_row.nd (by rfl) (ei_seq (ev_var 0 rfl (.inl rfl) rfl) hd) trivial (fun dd hdd => by
        obtain ⟨z, hz, rfl⟩ := List.mem_map.mp hdd
        exact ⟨_, _, eg_name (fun X h => h) 1 rfl (.inl (by rfl)), by decide, ev_var 1 rfl (.inl (by rfl)) rfl, ev_bl⟩) (by rw [List.length_map]; exact hsz)))
      (ev_len (by rfl) D.len (ev_var 0 rfl (.inl rfl) rfl) (hd.len _)) (.ltI _ _)) (by
        rw [hlen, List.length_map]
        by_cases hn : zs.Nodup
        · rw [decide_eq_true hn, decide_eq_false (fun z => (hiff.mp (by exact_mod_cast z)) hn)]
          rfl
        · rw [decide_eq_false hn, decide_eq_true (by exact_mod_cast hiff.mpr hn)]
          rfl)) (fun hr => ?_) fun hr => ?_)
    · have ho : o = .er CD := hbad (by
        unfold rowOk
        rw [hA, show decide zs.Nodup = false by simpa using hr]
        rfl)
      exact ss_one (s1_raise D.err (by rfl) ⟨ho, .refl _⟩)
    · have ho : o = .ok .non := by
        rcases hout with ⟨_, q⟩ | ⟨q, _⟩
        · exact q
        · unfold rowOk at q
          rw [hA, show decide zs.Nodup = true by simpa using hr] at q
          cases q
      exact ss_nil ⟨ho, .refl _⟩
end
end K1
set_option Elab.async false
set_option linter.all false
set_option maxRecDepth 100000
set_option maxHeartbeats 2000000
set_option autoImplicit false
namespace K1
open PySem PySem.Spec PyProof.Rows L2 Sh
abbrev st_dealt : Stmt := topS 11
abbrev st_gathered : Stmt := topS 12
theorem sc_dealt : FnScope ["cards", "hands", "place"] ["cards", "hands"] (defScope st_dealt) := ⟨rfl, rfl, rfl, by decide +kernel, rfl, by decide +kernel, by decide +kernel⟩
theorem sc_gathered : FnScope ["hands", "found", "hand"] ["hands"] (defScope st_gathered) := ⟨rfl, rfl, rfl, by decide +kernel, rfl, by decide +kernel, by decide +kernel⟩
inductive SDealt (CD : Addr) : Law
  | ok (d : D) (ds : List D) (n : Nat) (hd : SeqF d ds) (hz : ds.length ≤ 1000) (h : 0 < n) (h2 : n ≤ 1000) : SDealt CD [d, .int n] [] (.ok (.tup ((List.range n).map fun i => .tup (StepS.strided ds i n)))) []
  | er (d : D) (n : Int) (h : n < 1) : SDealt CD [d, .int n] [] (.er CD) []
inductive SGath : Law
  | ok (d : D) (ds : List D) (xs : D → List D) (hd : SeqF d ds) (hx : ∀ x ∈ ds, SeqF x (xs x)) (hz : (ds.flatMap xs).length ≤ 100000) : SGath [d] [] (.ok (.tup (ds.flatMap xs))) []
theorem kk_dealt {F : CF} {scope : Scope} : True := trivial
section
variable {P : Program} {w : World} {K : PySem.W.Frag} {mg : Str → Option Value} {base : Heap} {T : Tb} {CD : Addr}
theorem ok_dealt {f : Addr} {fd : FuncData} {k : Nat} {c P0 : Addr} (D : Deck K mg CD) (htup : mg "tuple" = none) (hrng : mg "range" = none) (tab : fd.code = .ref c ∧ GxR.TabB base mg c P0 ∧ P0 ∈ T.g ∧ P0 ∉ T.l.map (·.1)) (hk : 3 ≤ k) (Fu : Fun K "dealt" "dealt" st_dealt f fd) : FnOk P w K mg base (L2.CX P w) (k + 1) f fd ["cards", "hands"] (spOf K T (SDealt CD)) := by
  refine fn_def Fu sc_dealt (fun ds W o W' h => by cases h <;> rfl) fun cl E ds W o W' h => ?_
  cases h with
  | er d n h =>
    refine ss_cons (s1_ifT (ET.to (et_cmpR (ev_var 1 rfl (.inr (.inl rfl)) rfl) ev_int (.ltI _ _)) (decide_eq_true h)) (ss_one (s1_raise D.err (by rfl) ⟨rfl, .refl _⟩)))
  | ok d ds n hd hz h h2 =>
    refine ss_cons (s1_ifF (ET.to (et_cmpR (ev_var 1 rfl (.inr (.inl rfl)) rfl) ev_int (.ltI _ _)) (decide_eq_false (by omega))) (ss_nil ?_))
    have hm : ((rngD 0 ((n : Int)).toNat).map fun x => match x with | .int i => Sh.D.tup (StepS.strided ds i.toNat n) | x => x) = (List.range n).map fun i => Sh.D.tup (StepS.strided ds i n) := by
      unfold rngD
      rw [List.map_map]
      refine List.map_congr_left fun i _ => ?_
      show Sh.D.tup (StepS.strided ds (0 + (i : Int)).toNat n) = _
      rw [Int.zero_add, Int.toNat_natCast]
    refine ss_one (s1_ret (evr_of (EV.to (ev_tupG (by rfl) htup (gen_hM (own := [("place", 2)]) (fun x => match x with | .int i => Sh.D.tup (StepS.strided ds i.toNat n) | x => x) ⟨c, P0, tab.1, tab.2.1, tab.2.2.1, tab.2.2.2⟩ hk sc_dealt.nd (by rfl) ⟨rfl, by decide +kernel, by rfl⟩
      (ei_range1 (by rfl) hrng (ev_var 1 rfl (.inr (.inl rfl)) rfl) (by constructor <;> omega)) trivial (fun cd x hx => ?_)) ?_) (congrArg Sh.D.tup hm)) ⟨rfl, .refl _⟩))
    · obtain ⟨i, hi, rfl⟩ := List.mem_map.mp hx
      have hi0 : (0 + (i : Int)).toNat = i := by rw [Int.zero_add, Int.toNat_natCast]
      refine turn_map (eg_name (fun X h => h) 2 rfl (.inl (by rfl))) (by decide) (EV.to (ev_tupStep (i := i) (n := n) (by rfl) htup (ev_var 0 rfl (.inr (.inr (by rfl))) rfl) (eo_some (EV.to (ev_var 2 rfl (.inl (by rfl)) rfl) (by rw [Int.zero_add]))) eo_none (eo_some (ev_var 1 rfl (.inr (.inr (by rfl))) rfl)) hd h (Nat.le_trans hz (by decide))) (by show _ = Sh.D.tup (StepS.strided ds (0 + (i : Int)).toNat n); rw [hi0]))
    · rw [List.length_map, rngD_len, Int.toNat_natCast]
      exact Nat.le_trans h2 (by decide)
theorem ok_gathered {f : Addr} {fd : FuncData} {k : Nat} (htup : mg "tuple" = none) (hlst : mg "list" = none) (Fu : Fun K "gathered" "gathered" st_gathered f fd) : FnOk P w K mg base (L2.CX P w) (k + 1) f fd ["hands"] (spOf K T SGath) := by
  refine fn_def Fu sc_gathered (fun ds W o W' h => by cases h <;> rfl) fun cl E ds W o W' h => ?_
  cases h with
  | ok d ds xs hd hx hz =>
    refine ss_cons (s1_set 1 rfl (.inl rfl) (evr_new (en_lst ea_nil (by decide)) fun q => ?_))
    refine ss_cons (s1_for (ei_seq (ev_var 0 rfl (.inl rfl) rfl) hd) (fun i Γ' W' => (∃ x, Γ' = [some d, some (.ptr q), x]) ∧ W' = [(q, .lst ((ds.take i).flatMap xs))]) ⟨⟨_, rfl⟩, rfl⟩ (fun _ _ _ _ => trivial) (fun i dd Γ' W' hdd hI => ?_) (fun Γ' W' hI => ?_))
    · obtain ⟨⟨x, rfl⟩, rfl⟩ := hI
      have hmem := List.mem_of_getElem? hdd
      have et : (ds.take (i + 1)).flatMap xs = (ds.take i).flatMap xs ++ xs dd := by
        rw [List.take_add_one, hdd, List.flatMap_append]
        simp
      have hle : ((ds.take i).flatMap xs).length + (xs dd).length ≤ 100000 := by
        rw [← List.length_append, ← et]
        have e2 : ds.flatMap xs = (ds.take (i + 1)).flatMap xs ++ (ds.drop (i + 1)).flatMap xs := by rw [← List.flatMap_append, List.take_append_drop]
        rw [e2, List.length_append] at hz
        omega
      refine ⟨_, _, eg_name (fun X h => h.toG) 2 rfl (.inl rfl) (fun ds' e => by rcases hx dd hmem with q | q <;> rw [q] at e <;> cases e), ss_one (s1_augN 1 0 rfl (.inl rfl) rfl (en_list (by rfl) hlst (ev_var 2 rfl (.inl rfl) rfl) ((hx dd hmem).q _)) rfl (Nat.le_trans hle (by decide)) ⟨⟨_, rfl⟩, by rw [et]; rfl⟩)⟩
    · obtain ⟨⟨x, rfl⟩, rfl⟩ := hI
      rw [List.take_length]
      exact ss_one (s1_ret (evr_of (ev_tupleL (by rfl) htup (ev_var 1 rfl (.inl rfl) rfl) (.own 0 rfl)) ⟨rfl, .nil _⟩))
end
end K1
set_option Elab.async false
set_option linter.all false
set_option maxRecDepth 100000
set_option maxHeartbeats 2000000
set_option autoImplicit false
namespace K1
open PySem PySem.Spec PyProof.Rows L2 Sh
abbrev st_new_order : Stmt := topS 13
abbrev st_runs_up : Stmt := topS 14
abbrev st_rising : Stmt := topS 15
theorem sc_new_order : FnScope ["cards", "order", "card"] ["cards"] (defScope st_new_order) := ⟨rfl, rfl, rfl, by decide +kernel, rfl, by decide +kernel, by decide +kernel⟩
theorem sc_runs_up : FnScope ["cards", "order", "found", "place", "card"] ["cards"] (defScope st_runs_up) := ⟨rfl, rfl, rfl, by decide +kernel, rfl, by decide +kernel, by decide +kernel⟩
theorem sc_rising : FnScope ["cards", "places", "one", "other"] ["cards"] (defScope st_rising) := ⟨rfl, rfl, rfl, by decide +kernel, rfl, by decide +kernel, by decide +kernel⟩
def runAt (zs : List Str) (j : Nat) : Bool := decide (j = 0) || !decide (deckS.idxOf (zs.getD j ⟨#[]⟩) = deckS.idxOf (zs.getD (j - 1) ⟨#[]⟩) + 1)
def runsTo (zs : List Str) : Nat → Nat
  | 0 => 0
  | i + 1 => runsTo zs i + if runAt zs i then 1 else 0
inductive SRuns (CD : Addr) : Law
  | ok (zs : List Str) (hz : shortRow zs) (h : rowOk zs = true) : SRuns CD [.lst (zs.map .str)] [] (.ok (.int (runsTo zs zs.length : Nat))) []
  | er (zs : List Str) (hz : shortRow zs) (h : rowOk zs = false) : SRuns CD [.lst (zs.map .str)] [] (.er CD) []
/-- the order of a row: where the cards of the deck stand in it -/
def newOrd (zs : List Str) : List Int := (deckS.filter fun z => decide (z ∈ zs)).map fun z => ((zs.idxOf z : Nat) : Int)
def fallB (p : Int × Int) : Bool := decide (p.2 < p.1)
def risN (ps : List Int) : Nat := ((ps.zip (ps.drop 1)).filter fallB).length + if ps = [] then 0 else 1
inductive SRis (CD : Addr) : Law
  | ok (d : D) (zs : List Str) (hd : SeqF d (zs.map .str)) (hz : shortRow zs) (h : rowOk zs = true) : SRis CD [d] [] (.ok (.int (risN (newOrd zs) : Nat))) []
  | er (d : D) (zs : List Str) (hd : SeqF d (zs.map .str)) (hz : shortRow zs) (h : rowOk zs = false) : SRis CD [d] [] (.er CD) []
theorem in_deck {z : Str} (h : okc z = true) : z ∈ deckS := by
  obtain ⟨a, b, e, h1, h2⟩ := okc_two h
  have ez : z = cardS a b := by
    obtain ⟨⟨l⟩⟩ := z
    have e : l = [a, b] := e
    rw [e]
    rfl
  rw [ez]
  exact List.mem_flatMap.mpr ⟨b, h2, List.mem_map.mpr ⟨a, h1, rfl⟩⟩
theorem deck_okc : ∀ z ∈ deckS, okc z = true := by decide +kernel
theorem rowOk_all {zs : List Str} (h : rowOk zs = true) : ∀ z ∈ zs, okc z = true := by
  unfold rowOk at h
  rw [Bool.and_eq_true] at h
  exact List.all_eq_true.mp h.1
inductive SNew (CD : Addr) : Law
  | ok (d : D) (zs : List Str) (hd : SeqF d (zs.map .str)) (hz : shortRow zs) (h : rowOk zs = true) : SNew CD [d] [] (.ok (.tup ((newOrd zs).map .int))) []
  | er (d : D) (zs : List Str) (hd : SeqF d (zs.map .str)) (hz : shortRow zs) (h : rowOk zs = false) : SNew CD [d] [] (.er CD) []
section
variable {P : Program} {w : World} {K : PySem.W.Frag} {mg : Str → Option Value} {base : Heap} {T : Tb} {CD : Addr}
theorem ok_new_order {f : Addr} {fd : FuncData} {k : Nat} {c P0 : Addr} (hrow : Fd P w K mg base T "check_row" k 1 (SRow CD)) (hfd : Fd P w K mg base T "full_deck" k 0 SDeck) (htup : mg "tuple" = none) (tab : fd.code = .ref c ∧ GxR.TabB base mg c P0 ∧ P0 ∈ T.g ∧ P0 ∉ T.l.map (·.1)) (hk : 3 ≤ k) (Fu : Fun K "new_order" "new_order" st_new_order f fd) : FnOk P w K mg base (L2.CX P w) (k + 1) f fd ["cards"] (spOf K T (SNew CD)) := by
  refine fn_def Fu sc_new_order (fun ds W o W' h => by cases h <;> rfl) fun cl E ds W o W' h => ?_
  cases h with
  | er d zs hd hz h => exact ss_cons (s1_exprE (ev_pure hrow (Nat.le_refl _) (by rfl) (ea_cons (ev_var 0 rfl (.inr (.inl rfl)) rfl) ea_nil) (.er d zs hd hz h)) ⟨rfl, .nil _⟩)
  | ok d zs hd hz h =>
    have hok := rowOk_all h
    have hso : ∀ z ∈ zs, PyData.strOk z = true := fun z hz => okc_strOk (hok z hz)
    refine ss_cons (s1_expr (evr_of (ev_pure hrow (Nat.le_refl _) (by rfl) (ea_cons (ev_var 0 rfl (.inr (.inl rfl)) rfl) ea_nil) (.ok d zs hd hz h)) ?_))
    refine ss_cons (s1_setLcF (own := [("card", 2)]) 1 (fun x => if decide (strD x ∈ zs) then some x else none) sc_new_order.nd rfl rfl rfl rfl (by rfl) (by rfl) (ei_tup (ev_pure0 hfd (Nat.le_refl _) (by rfl) .ok)) trivial (fun x hx => ?_) (by show deckD.length < sizeLine; decide) ?_)
    · obtain ⟨z, hzd, rfl⟩ := List.mem_map.mp hx
      exact turn_if (eg_name (fun X h => h) 2 rfl (.inl (by rfl))) (by decide) (et_cmpR (ev_var 2 rfl (.inl (by rfl)) rfl) (ev_var 0 rfl (.inr (.inl (by rfl))) rfl) (hd.inS hso (okc_strOk (deck_okc z hzd)))) fun _ => ev_var 2 rfl (.inl (by rfl)) rfl
    · have e1 : deckD.filterMap (fun x => if decide (strD x ∈ zs) then some x else none) = (deckS.filter fun z => decide (z ∈ zs)).map Sh.D.str := filt_strs (fun z => decide (z ∈ zs)) deckS
      rw [e1]
      refine ss_one (s1_ret (evr_of (EV.to (ev_tupG (by rfl) htup (gen_hM (own := [("card", 2)]) (fun x => .int ((zs.idxOf (strD x) : Nat))) ⟨c, P0, tab⟩ hk sc_new_order.nd (by rfl) ⟨rfl, by decide +kernel, by rfl⟩ (ei_list (ev_var 1 rfl (.inl rfl) rfl) .lst) .lst (fun cd x hx => ?_)) ?_) ?_) ⟨rfl, .nil _⟩))
      · obtain ⟨z, hzd, rfl⟩ := List.mem_map.mp hx
        obtain ⟨hz1, hz2⟩ := List.mem_filter.mp hzd
        exact turn_map (eg_name (fun X h => h) 2 rfl (.inl (by rfl))) (by decide) (ev_indexS (ev_var 0 rfl (.inr (.inr (by rfl))) rfl) hd (ev_var 2 rfl (.inl (by rfl)) rfl) hso (of_decide_eq_true hz2))
      · rw [List.length_map, List.length_map]
        exact Nat.le_trans (List.length_filter_le _ _) (by decide)
      · rw [map_strs (fun z => Sh.D.int ((zs.idxOf z : Nat) : Int))]
        unfold newOrd
        rw [List.map_map]
        rfl
theorem deck_strOk : ∀ z ∈ deckS, PyData.strOk z = true := fun z hz => okc_strOk (deck_okc z hz)
theorem ok_runs_up {f : Addr} {fd : FuncData} {k : Nat} (hrow : Fd P w K mg base T "check_row" k 1 (SRow CD)) (hfd : Fd P w K mg base T "full_deck" k 0 SDeck) (henum : mg "enumerate" = none) (Fu : Fun K "runs_up" "runs_up" st_runs_up f fd) : FnOk P w K mg base (L2.CX P w) (k + 1) f fd ["cards"] (spOf K T (SRuns CD)) := by
  refine fn_def Fu sc_runs_up (fun ds W o W' h => by cases h <;> rfl) fun cl E ds W o W' h => ?_
  cases h with
  | er zs hz h => exact ss_cons (s1_exprE (ev_pure hrow (Nat.le_refl _) (by rfl) (ea_cons (ev_var 0 rfl (.inl rfl) rfl) ea_nil) (.er _ zs .lst hz h)) ⟨rfl, .nil _⟩)
  | ok zs hz h =>
    have hok := rowOk_all h
    refine ss_cons (s1_expr (evr_of (ev_pure hrow (Nat.le_refl _) (by rfl) (ea_cons (ev_var 0 rfl (.inl rfl) rfl) ea_nil) (.ok _ zs .lst hz h)) ?_))
    refine ss_cons (s1_par 1 2 rfl rfl (by decide) rfl rfl (ear_of (ea_cons (ev_pure0 hfd (Nat.le_refl _) (by rfl) .ok) (ea_cons ev_int ea_nil)) ⟨_, _, rfl, ?_⟩) (fun env he => ?_))
    · refine ss_cons (s1_for (ei_enumL (by rfl) henum (ev_var 0 rfl (.inl rfl) rfl) .lst) (fun i Γ' W' => (∃ x y, Γ' = [some (.lst (zs.map .str)), some (.tup deckD), some (.int (runsTo zs i : Nat)), x, y]) ∧ W' = []) ⟨⟨_, _, rfl⟩, rfl⟩ (fun _ _ _ _ => .lst) (fun i dd Γ' W' hdd hI => ?_) (fun Γ' W' hI => ?_))
      · obtain ⟨⟨x, y, rfl⟩, rfl⟩ := hI
        obtain ⟨xd, hx, rfl⟩ := enumD_get hdd
        rw [List.getElem?_map] at hx
        obtain ⟨z, hzi, rfl⟩ : ∃ z, zs[i]? = some z ∧ xd = .str z := by
          cases e : zs[i]? with
          | none => rw [e] at hx; cases hx
          | some z => rw [e] at hx; cases hx; exact ⟨z, rfl, rfl⟩
        have hmem := List.mem_of_getElem? hzi
        have hgz : zs.getD i ⟨#[]⟩ = z := by rw [List.getD_eq_getElem?_getD, hzi]; rfl
        have hzp : 0 < i → ∃ z', zs[i - 1]? = some z' ∧ zs.getD (i - 1) ⟨#[]⟩ = z' ∧ z' ∈ zs := fun h0 => by
          have hl : i < zs.length := (List.getElem?_eq_some_iff.mp hzi).1
          have e : zs[i - 1]? = some zs[i - 1] := List.getElem?_eq_getElem (by omega)
          exact ⟨_, e, by rw [List.getD_eq_getElem?_getD, e]; rfl, List.mem_of_getElem? e⟩
        refine ⟨_, _, eg_pr (fun X h => h.toG) (egs_cons (eg_name (fun X h => h.toG) 3 rfl (.inl rfl)) (egs_cons (eg_name (fun X h => h.toG) 4 rfl (.inl rfl)) egs_nil)) rfl, ss_one (s1_if (r := runAt zs i) (ET.to (r := decide ((i : Int) = 0) || !decide (deckS.idxOf z = deckS.idxOf (zs.getD (i - 1) ⟨#[]⟩) + 1)) (et_w (ew_or (et_cmpR (ev_var 3 rfl (.inl rfl) rfl) ev_int (.eqI _ _)) fun h0 => ew_or1 (ET.to (et_cmpR (ev_indexS (zs := deckS) (ev_var 1 rfl (.inl rfl) rfl) .tup (ev_var 4 rfl (.inl rfl) rfl) deck_strOk (in_deck (hok z hmem)))
          (ev_bin (ev_indexS (zs := deckS) (z := zs.getD (i - 1) ⟨#[]⟩) (ev_var 1 rfl (.inl rfl) rfl) .tup (ev_ix (ev_var 0 rfl (.inl rfl) rfl) (EV.to (d1 := .int ((i - 1 : Nat) : Int)) (ev_bin (ev_var 3 rfl (.inl rfl) rfl) ev_int (.subI _ _)) ?_) (.lst .lst ?_)) deck_strOk ?_) ev_int (.addI _ _)) (.neI _ _)) ?_))) ?_) (fun hr => ?_) fun hr => ?_)⟩
        · have : i ≠ 0 := fun z => by rw [z] at h0; simp at h0
          congr 1
          omega
        · have : 0 < i := Nat.pos_of_ne_zero fun z => by rw [z] at h0; simp at h0
          obtain ⟨z', e1, e2, e3⟩ := hzp this
          rw [e2]
          exact atI_nat (by rw [List.getElem?_map, e1]; rfl)
        · have : 0 < i := Nat.pos_of_ne_zero fun z => by rw [z] at h0; simp at h0
          obtain ⟨z', e1, e2, e3⟩ := hzp this
          rw [e2]
          exact in_deck (hok z' e3)
        · congr 1
          exact decide_eq_decide.mpr ⟨fun q => by exact_mod_cast q, fun q => by exact_mod_cast q⟩
        · unfold runAt
          rw [hgz]
          congr 1
          exact decide_eq_decide.mpr ⟨fun q => by exact_mod_cast q, fun q => by exact_mod_cast q⟩
        · refine ss_one (s1_augI 2 rfl (.inl rfl) rfl ev_int ⟨⟨some (.int (i : Nat)), some (.str z), ?_⟩, rfl⟩)
          show [_, _, some (Sh.D.int _), _, _] = _
          rw [runsTo, if_pos hr]
          rfl
        · refine ss_nil ⟨⟨some (.int (i : Nat)), some (.str z), ?_⟩, rfl⟩
          rw [runsTo, if_neg (by rw [hr]; exact Bool.false_ne_true)]
          rfl
      · obtain ⟨⟨x, y, rfl⟩, rfl⟩ := hI
        refine ss_one (s1_ret (evr_of (ev_var 2 rfl (.inl rfl) rfl) ⟨?_, .nil _⟩))
        rw [enumD_len, List.length_map]
    · obtain ⟨a1, a2, a3, a4, a5, a6, a7, a8, a9⟩ := env
      cases he
      rfl
end
end K1
set_option Elab.async false
set_option linter.all false
set_option maxRecDepth 100000
set_option maxHeartbeats 2000000
set_option autoImplicit false
namespace K1
open PySem PySem.Spec PyProof.Rows L2 Sh
theorem zipD_ints : ∀ (xs ys : List Int), zipD (xs.map .int) (ys.map .int) = (xs.zip ys).map fun p => D.pr [.int p.1, .int p.2]
  | [], _ => by simp [zipD]
  | _ :: _, [] => by simp [zipD]
  | x :: xs, y :: ys => by
    have ih := zipD_ints xs ys
    unfold zipD at ih ⊢
    rw [List.map_cons, List.map_cons, List.zipWith_cons_cons, ih]
    rfl
def fallD : D → Option D
  | .pr [.int a, .int b] => if decide (b < a) then some (.int 1) else none
  | _ => none
theorem fall_len : ∀ ps : List (Int × Int), ((ps.map fun p => D.pr [.int p.1, .int p.2]).filterMap fallD).length = (ps.filter fallB).length
  | [] => rfl
  | p :: ps => by
    have ih := fall_len ps
    rw [List.map_cons, List.filterMap_cons, List.filter_cons]
    have e : fallD (D.pr [.int p.1, .int p.2]) = if fallB p then some (.int 1) else none := rfl
    rw [e]
    cases fallB p
    · simpa using ih
    · simpa using ih
section
variable {P : Program} {w : World} {K : PySem.W.Frag} {mg : Str → Option Value} {base : Heap} {T : Tb} {CD : Addr}
theorem ok_rising {f : Addr} {fd : FuncData} {k : Nat} (hnew : Fd P w K mg base T "new_order" k 1 (SNew CD)) (hlen : mg "len" = none) (hzip : mg "zip" = none) (Fu : Fun K "rising" "rising" st_rising f fd) : FnOk P w K mg base (L2.CX P w) (k + 1) f fd ["cards"] (spOf K T (SRis CD)) := by
  refine fn_def Fu sc_rising (fun ds W o W' h => by cases h <;> rfl) fun cl E ds W o W' h => ?_
  cases h with
  | er d zs hd hz h => exact ss_cons (s1_setE 1 rfl (.inl rfl) (ev_pure hnew (Nat.le_refl _) (by rfl) (ea_cons (ev_var 0 rfl (.inl rfl) rfl) ea_nil) (.er d zs hd hz h)) ⟨rfl, .nil _⟩)
  | ok d zs hd hz h =>
    have hpl : (newOrd zs).length ≤ 52 := by
      unfold newOrd
      rw [List.length_map]
      exact Nat.le_trans (List.length_filter_le _ _) (by decide)
    refine ss_cons (s1_set 1 rfl (.inl rfl) (evr_of (ev_pure hnew (Nat.le_refl _) (by rfl) (ea_cons (ev_var 0 rfl (.inl rfl) rfl) ea_nil) (.ok d zs hd hz h)) ?_))
    generalize newOrd zs = ps at hpl ⊢
    have e1 : cutD (ps.map Sh.D.int) (some 1) none = (ps.drop 1).map Sh.D.int := by
      rw [show cutD (ps.map Sh.D.int) (some 1) none = (ps.map Sh.D.int).drop 1 from cutD_from _ 1, List.map_drop]
    refine ss_one (s1_ret (evr_of (EV.to (ev_bin (ev_len (by rfl) hlen (EN.ev (en_lcF (own := [("one", 2), ("other", 3)]) fallD sc_rising.nd (by rfl) (ei_zipT (xs := ps.map Sh.D.int) (ys := (ps.drop 1).map Sh.D.int) (by rfl) hzip (ea_cons (ev_var 1 rfl (.inl rfl) rfl) (ea_cons (EV.to (ev_sliceT (ev_var 1 rfl (.inl rfl) rfl) (eo_some ev_int) eo_none) (by rw [e1])) ea_nil))) trivial (fun x hx => ?_) ?_)) (.lst .lst))
      (ev_if (r := !decide (ps = [])) (o := .ok (Sh.D.int (if ps = [] then 0 else 1))) (ET.to (et_cmpR (ev_var 1 rfl (.inl rfl) rfl) (ev_tup ea_nil (by decide)) (.neD (Py.intsT ps) (Py.intsT []) (shaped_intsT ps) (shaped_intsT []) rfl)) ?_) (fun hr => EV.to ev_int ?_) (fun hr => EV.to ev_int ?_)) (.addI _ _)) ?_) ⟨rfl, .nil _⟩))
    · rw [zipD_ints] at hx
      obtain ⟨p, hp, rfl⟩ := List.mem_map.mp hx
      exact turn_if (r := decide (p.2 < p.1)) (z := .int 1) (eg_pr (fun X h => h) (egs_cons (eg_name (fun X h => h) 2 rfl (.inl (by rfl))) (egs_cons (eg_name (fun X h => h) 3 rfl (.inl (by rfl))) egs_nil)) rfl) (by decide) (et_cmpR (ev_var 3 rfl (.inl (by rfl)) rfl) (ev_var 2 rfl (.inl (by rfl)) rfl) (.ltI _ _)) fun _ => ev_int
    · rw [zipD_len, List.length_map, List.length_map]
      exact Nat.lt_of_le_of_lt (Nat.le_trans (Nat.min_le_left _ _) hpl) (by decide)
    · rw [show PyData.eqv (.tuple (ps.map .int)) (.tuple (([] : List Int).map .int)) = decide (ps = []) from enc_int.tup.eq ps []]
    · rw [if_neg (by simpa using hr)]
    · rw [if_pos (by simpa using hr)]
    · unfold risN
      rw [zipD_ints, fall_len]
      by_cases hp : ps = []
      · subst hp
        rfl
      · rw [if_neg hp, if_neg hp]
        rfl
end
end K1
set_option Elab.async false
set_option linter.all false
set_option maxRecDepth 100000
set_option maxHeartbeats 2000000
set_option autoImplicit false
namespace K1
open PySem PySem.Spec PyProof.Rows L2 Sh
abbrev st_hand_kind : Stmt := topS 16
theorem sc_hand_kind : FnScope ["cards", "ranks", "counts", "flush", "straight", "card", "rank"] ["cards"] (defScope st_hand_kind) := ⟨rfl, rfl, rfl, by decide +kernel, rfl, by decide +kernel, by decide +kernel⟩
def srt (ns : List Int) : List Int := ns.mergeSort fun x y => decide (x ≤ y)
theorem srt_one {a b : List Int} (h : a.Perm b) (ha : a.Pairwise (· ≤ ·)) : a = srt b := PySem.W.os_sorted_mergeSort h ha
def ranksOf (zs : List Str) : List Int := srt (zs.map fun z => (rkN z : Int))
def kfI : D → Key
  | .int i => .inl i
  | _ => .inr ⟨#[]⟩
/-- the numbers, each once, in the order of their coming -/
def onceI (ns : List Int) : List Int := keysOf [] ns
def cntsOf (rs : List Int) : List Int := srt ((onceI rs).map fun r => ((rs.count r : Nat) : Int))
def suitOf (z : Str) : Nat := z.cps.toList.getD 1 0
def onceS (zs : List Str) : List Nat := keysOf [] (zs.map suitOf)
def kind5 (st fl : Bool) (last : Int) (cs : List Int) : Str :=
  if st && fl then ("straight flush" : Str) else if last = 4 then ("four" : Str) else if cs = [2, 3] then ("full house" : Str) else if fl then ("flush" : Str) else if st then ("straight" : Str) else if last = 3 then ("three" : Str) else if cs = [1, 2, 2] then ("two pairs" : Str) else if last = 2 then ("pair" : Str) else ("high" : Str)
def stB (rs cs : List Int) : Bool := decide (cs.length = 5) && (decide (rs.getD 4 0 - rs.getD 0 0 = 4) || decide (rs = [1, 10, 11, 12, 13]))
def kind4 (rs cs : List Int) (fl : Bool) : Str := kind5 (stB rs cs) fl (cs.getLastD 0) cs
def kindS (zs : List Str) : Str := kind4 (ranksOf zs) (cntsOf (ranksOf zs)) (decide ((onceS zs).length = 1))
inductive SKind (CD : Addr) : Law
  | ok (d : D) (zs : List Str) (hd : SeqF d (zs.map .str)) (hz : shortRow zs) (h : rowOk zs = true) (h5 : zs.length = 5) : SKind CD [d] [] (.ok (.str (kindS zs))) []
  | er (d : D) (zs : List Str) (hd : SeqF d (zs.map .str)) (hz : shortRow zs) (h : rowOk zs = false ∨ zs.length ≠ 5) : SKind CD [d] [] (.er CD) []
theorem keysOf_map {α β : Type} [DecidableEq α] [DecidableEq β] (f : α → β) (hf : ∀ a b, f a = f b → a = b) : ∀ (ks acc : List α), keysOf (acc.map f) (ks.map f) = (keysOf acc ks).map f
  | [], acc => rfl
  | k :: ks, acc => by
    rw [List.map_cons]
    unfold keysOf
    have e : f k ∈ acc.map f ↔ k ∈ acc := ⟨fun h => by
      obtain ⟨a, ha, e⟩ := List.mem_map.mp h
      exact hf _ _ e ▸ ha, fun h => List.mem_map_of_mem h⟩
    by_cases h : k ∈ acc
    · rw [if_pos (e.mpr h), if_pos h, keysOf_map f hf ks acc]
    · rw [if_neg (fun z => h (e.mp z)), if_neg h, ← keysOf_map f hf ks (acc ++ [k]), List.map_append]
      rfl
theorem keys_ints (ns : List Int) : ((ns.map D.int).foldl (fun a d => putD a (kfI d) (D.bl true)) []).map (fun kv => kD kv.1) = (onceI ns).map D.int := by
  have := fold_keys kfI (fun _ => D.bl true) (ns.map D.int) []
  have e2 : (ns.map D.int).map kfI = ns.map Sum.inl := by
    rw [List.map_map]
    rfl
  rw [e2] at this
  have e3 := keysOf_map (Sum.inl : Int → Key) (fun a b h => Sum.inl.inj h) ns []
  rw [List.map_nil] at e3 this
  rw [e3] at this
  rw [show (fun kv : Key × D => kD kv.1) = kD ∘ (fun kv => kv.1) from rfl, ← List.map_map, this, List.map_map]
  rfl
def kfS1 : D → Key
  | .str z => .inr ⟨#[suitOf z]⟩
  | _ => .inl 0
theorem keys_suits (zs : List Str) : ((zs.map D.str).foldl (fun a d => putD a (kfS1 d) (D.bl true)) []).length = (onceS zs).length := by
  rw [fold_len]
  have e2 : (zs.map D.str).map kfS1 = (zs.map suitOf).map fun c => (Sum.inr ⟨#[c]⟩ : Key) := by
    rw [List.map_map, List.map_map]
    rfl
  rw [e2]
  have e3 := keysOf_map (fun c => (Sum.inr ⟨#[c]⟩ : Key)) (fun a b h => by
    have h := Sum.inr.inj h
    injection h with h
    have := congrArg Array.toList h
    simpa using this) (zs.map suitOf) []
  rw [List.map_nil] at e3
  rw [e3, List.length_map]
  rfl
section
variable {P : Program} {w : World} {K : PySem.W.Frag} {mg : Str → Option Value} {base : Heap} {T : Tb} {CD : Addr}
theorem ok_hand_kind {f : Addr} {fd : FuncData} {k : Nat} {c P0 : Addr} (D : Deck K mg CD) (hrow : Fd P w K mg base T "check_row" k 1 (SRow CD)) (hrk : Fd P w K mg base T "rank_of" (k - 3) 1 (SRank CD)) (hsort : mg "sorted" = none) (tab : fd.code = .ref c ∧ GxR.TabB base mg c P0 ∧ P0 ∈ T.g ∧ P0 ∉ T.l.map (·.1)) (hk : 3 ≤ k) (Fu : Fun K "hand_kind" "hand_kind" st_hand_kind f fd) : FnOk P w K mg base (L2.CX P w) (k + 1) f fd ["cards"] (spOf K T (SKind CD)) := by
  refine fn_def Fu sc_hand_kind (fun ds W o W' h => by cases h <;> rfl) fun cl E ds W o W' h => ?_
  have hcs := fun {p : Pos} {d : Sh.D} {Γ : Ga} (e : Γ[0]? = some (some d)) => ev_var (F := ⟨P, w, K, mg, base, ["cards", "ranks", "counts", "flush", "straight", "card", "rank"], defScope st_hand_kind, k, fd.code, E, T, "hand_kind" ++ ".<locals>.", some cl⟩) (pos := p) (W := []) 0 (x := "cards") rfl (.inl rfl) e
  cases h with
  | er d zs hd hz h =>
    by_cases hr : rowOk zs = true
    · have h5 : zs.length ≠ 5 := h.resolve_left (by rw [hr]; exact fun z => by cases z)
      refine ss_cons (s1_expr (evr_of (ev_pure hrow (Nat.le_refl _) (by rfl) (ea_cons (hcs rfl) ea_nil) (.ok d zs hd hz hr)) ?_))
      exact ss_cons (s1_ifT (ET.to (et_cmpR (ev_len (by rfl) D.len (hcs rfl) (hd.len _)) ev_int (.neI _ _)) (by
        rw [List.length_map, decide_eq_false (fun q => h5 (by exact_mod_cast q))]
        rfl)) (ss_one (s1_raise D.err (by rfl) ⟨rfl, .nil _⟩)))
    · exact ss_cons (s1_exprE (ev_pure hrow (Nat.le_refl _) (by rfl) (ea_cons (hcs rfl) ea_nil) (.er d zs hd hz (Bool.eq_false_iff.mpr hr))) ⟨rfl, .nil _⟩)
  | ok d zs hd hz h h5 =>
    have hok := rowOk_all h
    refine ss_cons (s1_expr (evr_of (ev_pure hrow (Nat.le_refl _) (by rfl) (ea_cons (hcs rfl) ea_nil) (.ok d zs hd hz h)) ?_))
    refine ss_cons (s1_ifF (ET.to (et_cmpR (ev_len (by rfl) D.len (hcs rfl) (hd.len _)) ev_int (.neI _ _)) (by
      rw [List.length_map, h5]
      rfl)) (ss_nil ?_))
    refine ss_cons (s1_set 1 rfl (.inr rfl) (evr_of (EN.ev (en_sortGI (W1 := []) (ns := zs.map fun z => (rkN z : Int)) (ms := ranksOf zs) (by rfl) hsort (GenH.to (gen_hM (own := [("card", 5)]) (fun x => Sh.D.int (rkN (strD x))) ⟨c, P0, tab⟩ hk sc_hand_kind.nd (by rfl) ⟨rfl, by decide +kernel, by rfl⟩ (ei_seq (hcs rfl) hd) trivial (fun cd x hx => ?_)) ?_) ?_ fun ms' => srt_one)) ?_))
    · obtain ⟨z, hzm, rfl⟩ := List.mem_map.mp hx
      exact turn_map (eg_name (fun X h => h) 5 rfl (.inl (by rfl))) (by decide) (ev_pure hrk (Nat.le_refl _) (by rfl) (ea_cons (ev_var 5 rfl (.inl (by rfl)) rfl) ea_nil) (.ok z (hok z hzm)))
    · rw [map_strs (fun z => Sh.D.int (rkN z : Nat)), List.map_map]
      rfl
    · rw [List.length_map, h5]
      decide
    have hrl : (ranksOf zs).length = 5 := by
      unfold ranksOf srt
      rw [List.length_mergeSort, List.length_map, h5]
    have hkd : kindS zs = kind4 (ranksOf zs) (cntsOf (ranksOf zs)) (decide ((onceS zs).length = 1)) := rfl
    generalize ranksOf zs = rs at hrl hkd ⊢
    have hrv := fun {p : Pos} {Γ : Ga} {W : OW} (e : Γ[1]? = some (some (Sh.D.lst (rs.map Sh.D.int)))) => ev_var (F := ⟨P, w, K, mg, base, ["cards", "ranks", "counts", "flush", "straight", "card", "rank"], defScope st_hand_kind, k, fd.code, E, T, "hand_kind" ++ ".<locals>.", some cl⟩) (pos := p) (W := W) 1 (x := "ranks") rfl (.inr (.inl rfl)) e
    refine ss_cons (s1_set 2 rfl (.inl rfl) (evr_of (EN.ev (en_sortGI (W1 := []) (ns := (onceI rs).map fun r => ((rs.count r : Nat) : Int)) (ms := cntsOf rs) (by rfl) hsort (GenH.to (gen_hM (own := [("rank", 6)]) (fun x => Sh.D.int (rs.count (intD x) : Nat)) ⟨c, P0, tab⟩ hk sc_hand_kind.nd (by rfl) ⟨rfl, by decide +kernel, by rfl⟩
      (ei_keysN (en_dcM (own := [("rank", 6)]) kfI (fun _ => .bl true) sc_hand_kind.nd (by rfl) (ei_list (hrv rfl) .lst) .lst (fun x hx => ?_) ?_)) trivial (fun cd x hx => ?_)) ?_) ?_ fun ms' => srt_one)) ?_))
    · obtain ⟨i, hi, rfl⟩ := List.mem_map.mp hx
      exact ⟨_, _, eg_name (fun X h => h) 6 rfl (.inl (by rfl)), by decide, ev_var 6 rfl (.inl (by rfl)) rfl, ev_bl⟩
    · rw [List.length_map, hrl]
      decide
    · rw [keys_ints] at hx
      obtain ⟨i, hi, rfl⟩ := List.mem_map.mp hx
      exact turn_map (eg_name (fun X h => h) 6 rfl (.inl (by rfl))) (by decide) (ev_lcount (ns := rs) (ev_var 1 rfl (.inr (.inr (by rfl))) rfl) .lst (ev_var 6 rfl (.inl (by rfl)) rfl) .lst)
    · rw [keys_ints, map_ints (fun i => Sh.D.int (rs.count i : Nat)), List.map_map]
      rfl
    · rw [List.length_map]
      exact Nat.le_trans (Nat.le_trans (keysOf_len rs []) (by rw [hrl]; decide)) (by decide : 5 ≤ sizeLine)
    have hcn : cntsOf rs ≠ [] := by
      intro z
      have h1 : (cntsOf rs).length = (onceI rs).length := by
        unfold cntsOf srt
        rw [List.length_mergeSort, List.length_map]
      rw [z] at h1
      obtain ⟨r, rest, e⟩ : ∃ r rest, rs = r :: rest := by
        cases rs with
        | nil => cases hrl
        | cons r rest => exact ⟨r, rest, rfl⟩
      have h2 : r ∈ onceI rs := (keysOf_mem rs [] r).mpr (.inr (by rw [e]; exact List.mem_cons_self))
      rw [List.eq_nil_of_length_eq_zero h1.symm] at h2
      cases h2
    obtain ⟨c0, last, ec⟩ : ∃ c0 last, cntsOf rs = c0 ++ [last] := ⟨_, _, (List.dropLast_concat_getLast hcn).symm⟩
    have hla : L2.atI ((cntsOf rs).map Sh.D.int) (-1) = some (Sh.D.int last) := by
      rw [ec, List.map_append]
      exact atI_last _ _
    have hlast : (cntsOf rs).getLastD 0 = last := by
      rw [ec]
      simp
    generalize cntsOf rs = cs at hkd hla hlast ⊢
    refine ss_cons (s1_set 3 rfl (.inl rfl) (evr_of (EV.to (d1 := .bl (decide ((onceS zs).length = 1))) (ev_cmpR (ev_lenN (by rfl) D.len (en_dcM (own := [("card", 5)]) kfS1 (fun _ => .bl true) sc_hand_kind.nd (by rfl) (ei_seq (hcs rfl) hd) trivial (fun x hx => ?_) ?_)) ev_int (.eqI _ _)) ?_) ?_))
    · obtain ⟨z, hzm, rfl⟩ := List.mem_map.mp hx
      obtain ⟨a, b, e, h1, h2⟩ := okc_two (hok z hzm)
      have es : suitOf z = b := by
        unfold suitOf
        rw [e]
        rfl
      refine ⟨_, _, eg_name (fun X h => h) 5 rfl (.inl (by rfl)), by decide, EV.to (ev_ix (ev_var 5 rfl (.inl (by rfl)) rfl) ev_int (.str (Nat.le_trans (Nat.le_of_eq (okc_len (hok z hzm))) (by decide)) (c := b) (by rw [e]; rfl))) ?_, ev_bl⟩
      show _ = Sh.D.str ⟨#[suitOf z]⟩
      rw [es]
    · rw [List.length_map, h5]
      decide
    · rw [keys_suits]
      congr 1
      exact decide_eq_decide.mpr ⟨fun q => by exact_mod_cast q, fun q => by exact_mod_cast q⟩
    generalize decide ((onceS zs).length = 1) = fl at hkd ⊢
    have hcv := fun {p : Pos} {Γ : Ga} {W : OW} (e : Γ[2]? = some (some (Sh.D.lst (cs.map Sh.D.int)))) => ev_var (F := ⟨P, w, K, mg, base, ["cards", "ranks", "counts", "flush", "straight", "card", "rank"], defScope st_hand_kind, k, fd.code, E, T, "hand_kind" ++ ".<locals>.", some cl⟩) (pos := p) (W := W) 2 (x := "counts") rfl (.inl rfl) e
    have g4 : L2.atI (rs.map Sh.D.int) 4 = some (.int (rs.getD 4 0)) := atI_nat (j := 4) (by
      rw [List.getElem?_map, List.getD_eq_getElem?_getD, List.getElem?_eq_getElem (by omega)]
      rfl)
    have g0 : L2.atI (rs.map Sh.D.int) 0 = some (.int (rs.getD 0 0)) := atI_nat (j := 0) (by
      rw [List.getElem?_map, List.getD_eq_getElem?_getD, List.getElem?_eq_getElem (by omega)]
      rfl)
    refine ss_cons (s1_set 4 rfl (.inl rfl) (evr_of (EV.to (d1 := .bl (decide (cs.length = 5) && (decide (rs.getD 4 0 - rs.getD 0 0 = 4) || decide (rs = [1, 10, 11, 12, 13])))) (ev_and (ev_cmpR (ev_len (by rfl) D.len (hcv rfl) (.lst .lst)) ev_int (.eqI _ _)) fun _ => ev_one (ev_or (ev_cmpR (ev_bin (ev_ix (hrv rfl) ev_int (.lst .lst g4)) (ev_ix (hrv rfl) ev_int (.lst .lst g0)) (.subI _ _)) ev_int (.eqI _ _)) fun _ => ev_one (ev_cmpR (hrv rfl) (EN.ev (en_lst (ea_cons ev_int (ea_cons ev_int (ea_cons ev_int (ea_cons ev_int (ea_cons ev_int ea_nil))))) (by decide))) (.eqD (Py.intsL rs) (Py.intsL [1, 10, 11, 12, 13]) (shaped_intsL rs) (shaped_intsL _) (enc_int.list.eq rs [1, 10, 11, 12, 13]))))) ?_) ?_))
    · rw [List.length_map]
      congr 2
      exact decide_eq_decide.mpr ⟨fun q => by exact_mod_cast q, fun q => by exact_mod_cast q⟩
    generalize hst : (decide (cs.length = 5) && (decide (rs.getD 4 0 - rs.getD 0 0 = 4) || decide (rs = [1, 10, 11, 12, 13]))) = st
    have hk4 : kindS zs = kind5 st fl last cs := by
      rw [hkd, ← hst, ← hlast]
      rfl
    rw [hk4]
    have hci := fun {p1 p2 p3 p4 : Pos} {j : Nat} {Γ : Ga} (e : Γ[2]? = some (some (Sh.D.lst (cs.map Sh.D.int)))) => ev_ix (pos := p4) (hcv (p := p1) (W := []) e) (ev_neg (pos := p2) (ev_int (i := 1) (j := j) (pos := p3))) (.lst .lst hla)
    refine ss_cons (s1_if (r := st && fl) (et_w (ew_and (et_val (ev_var 4 rfl (.inl rfl) rfl)) fun _ => ew_and1 (et_val (ev_var 3 rfl (.inl rfl) rfl)))) (fun hr => ss_one (s1_ret (evr_of ev_str ⟨?_, .nil _⟩))) fun h1 => ss_nil ?_)
    · unfold kind5; rw [if_pos hr]
    have h1 : ¬ (st && fl) = true := by rw [h1]; exact Bool.false_ne_true
    refine ss_cons (s1_if (r := decide (last = 4)) (et_cmpR (hci rfl) ev_int (.eqI _ _)) (fun hr => ss_one (s1_ret (evr_of ev_str ⟨?_, .nil _⟩))) fun h2 => ss_nil ?_)
    · unfold kind5; rw [if_neg h1, if_pos (of_decide_eq_true hr)]
    have h2 := of_decide_eq_false h2
    refine ss_cons (s1_if (r := decide (cs = [2, 3])) (et_cmpR (hcv rfl) (EN.ev (en_lst (ea_cons ev_int (ea_cons ev_int ea_nil)) (by decide))) (.eqD (Py.intsL cs) (Py.intsL [2, 3]) (shaped_intsL cs) (shaped_intsL _) (enc_int.list.eq cs [2, 3]))) (fun hr => ss_one (s1_ret (evr_of ev_str ⟨?_, .nil _⟩))) fun h3 => ss_nil ?_)
    · unfold kind5; rw [if_neg h1, if_neg h2, if_pos (of_decide_eq_true hr)]
    have h3 := of_decide_eq_false h3
    refine ss_cons (s1_if (r := fl) (et_val (ev_var 3 rfl (.inl rfl) rfl)) (fun hr => ss_one (s1_ret (evr_of ev_str ⟨?_, .nil _⟩))) fun h4 => ss_nil ?_)
    · unfold kind5; rw [if_neg h1, if_neg h2, if_neg h3, if_pos hr]
    have h4 : ¬ fl = true := by rw [h4]; exact Bool.false_ne_true
    refine ss_cons (s1_if (r := st) (et_val (ev_var 4 rfl (.inl rfl) rfl)) (fun hr => ss_one (s1_ret (evr_of ev_str ⟨?_, .nil _⟩))) fun h6 => ss_nil ?_)
    · unfold kind5; rw [if_neg h1, if_neg h2, if_neg h3, if_neg h4, if_pos hr]
    have h6 : ¬ st = true := by rw [h6]; exact Bool.false_ne_true
    refine ss_cons (s1_if (r := decide (last = 3)) (et_cmpR (hci rfl) ev_int (.eqI _ _)) (fun hr => ss_one (s1_ret (evr_of ev_str ⟨?_, .nil _⟩))) fun h7 => ss_nil ?_)
    · unfold kind5; rw [if_neg h1, if_neg h2, if_neg h3, if_neg h4, if_neg h6, if_pos (of_decide_eq_true hr)]
    have h7 := of_decide_eq_false h7
    refine ss_cons (s1_if (r := decide (cs = [1, 2, 2])) (et_cmpR (hcv rfl) (EN.ev (en_lst (ea_cons ev_int (ea_cons ev_int (ea_cons ev_int ea_nil))) (by decide))) (.eqD (Py.intsL cs) (Py.intsL [1, 2, 2]) (shaped_intsL cs) (shaped_intsL _) (enc_int.list.eq cs [1, 2, 2]))) (fun hr => ss_one (s1_ret (evr_of ev_str ⟨?_, .nil _⟩))) fun h8 => ss_nil ?_)
    · unfold kind5; rw [if_neg h1, if_neg h2, if_neg h3, if_neg h4, if_neg h6, if_neg h7, if_pos (of_decide_eq_true hr)]
    have h8 := of_decide_eq_false h8
    refine ss_one (s1_ret (evr_of (ev_if (r := decide (last = 2)) (o := .ok (.str (kind5 st fl last cs))) (et_cmpR (hci rfl) ev_int (.eqI _ _)) (fun hr => EV.to ev_str ?_) fun hr => EV.to ev_str ?_) ⟨rfl, .nil _⟩))
    · unfold kind5; rw [if_neg h1, if_neg h2, if_neg h3, if_neg h4, if_neg h6, if_neg h7, if_neg h8, if_pos (of_decide_eq_true hr)]
    · unfold kind5; rw [if_neg h1, if_neg h2, if_neg h3, if_neg h4, if_neg h6, if_neg h7, if_neg h8, if_neg (of_decide_eq_false hr)]
end
end K1
set_option Elab.async false
set_option linter.all false
set_option maxRecDepth 100000
set_option maxHeartbeats 2000000
set_option autoImplicit false
namespace K1
open PySem PySem.Spec PySem.W PyProof.Rows L2 Sh
/-! best_five: the rows of five places, the least of them -/
section
variable {α : Type} {lt : α → α → Bool}
structure SO (lt : α → α → Bool) : Prop where
  tr : ∀ a b c, lt a b = true → lt b c = true → lt a c = true
  ir : ∀ a, lt a a = false
  to : ∀ a b, lt a b = false → lt b a = false → a = b
theorem fold_min (S : SO lt) : ∀ (xs : List α) (x : α), (xs.foldl (fun a y => if lt y a = true then y else a) x ∈ x :: xs) ∧ ∀ y ∈ x :: xs, lt y (xs.foldl (fun a y => if lt y a = true then y else a) x) = false
  | [], x => ⟨List.mem_cons_self, fun y hy => by
      rw [List.mem_singleton] at hy
      rw [hy]
      exact S.ir x⟩
  | y :: ys, x => by
    rw [List.foldl_cons]
    by_cases h : lt y x = true
    · rw [if_pos h]
      obtain ⟨h1, h2⟩ := fold_min S ys y
      refine ⟨List.mem_cons_of_mem _ h1, fun z hz => ?_⟩
      rcases List.mem_cons.mp hz with rfl | hz
      · refine Bool.eq_false_iff.mpr fun q => ?_
        have := S.tr _ _ _ h q
        rw [h2 y List.mem_cons_self] at this
        cases this
      · exact h2 z hz
    · rw [if_neg h]
      obtain ⟨h1, h2⟩ := fold_min S ys x
      refine ⟨?_, fun z hz => ?_⟩
      · rcases List.mem_cons.mp h1 with e | e
        · rw [e]; exact List.mem_cons_self
        · exact List.mem_cons_of_mem _ (List.mem_cons_of_mem _ e)
      · rcases List.mem_cons.mp hz with rfl | hz
        · exact h2 _ List.mem_cons_self
        · rcases List.mem_cons.mp hz with rfl | hz
          · refine Bool.eq_false_iff.mpr fun q => ?_
            have hx := h2 x List.mem_cons_self
            cases hm : lt (ys.foldl (fun a y => if lt y a = true then y else a) x) x with
            | true => exact h (S.tr _ _ _ q hm)
            | false =>
              rw [← S.to _ _ hx hm] at q
              exact h q
          · exact h2 z (List.mem_cons_of_mem _ hz)
end
def so_listI : SO (listLt (α := Int)) where
  tr := by
    intro a
    induction a with
    | nil =>
      intro b c h1 h2
      cases c with
      | nil => cases b <;> simp [listLt] at h1 h2
      | cons _ _ => rfl
    | cons x a ih =>
      intro b c h1 h2
      cases b with
      | nil => simp [listLt] at h1
      | cons y b =>
        cases c with
        | nil => simp [listLt] at h2
        | cons z c =>
          unfold listLt at h1 h2 ⊢
          by_cases e1 : x = y
          · subst e1
            rw [if_pos rfl] at h1
            by_cases e2 : x = z
            · rw [if_pos e2] at h2 ⊢
              exact ih _ _ h1 h2
            · rw [if_neg e2] at h2 ⊢
              exact h2
          · rw [if_neg e1] at h1
            have h1 : x < y := of_decide_eq_true h1
            by_cases e2 : y = z
            · subst e2
              rw [if_neg e1]
              exact decide_eq_true h1
            · rw [if_neg e2] at h2
              have h2 : y < z := of_decide_eq_true h2
              rw [if_neg (by omega)]
              exact decide_eq_true (show x < z by omega)
  ir := by
    intro a
    induction a with
    | nil => rfl
    | cons x a ih =>
      unfold listLt
      rw [if_pos rfl]
      exact ih
  to := by
    intro a
    induction a with
    | nil =>
      intro b h1 h2
      cases b with
      | nil => rfl
      | cons _ _ => simp [listLt] at h1
    | cons x a ih =>
      intro b h1 h2
      cases b with
      | nil => simp [listLt] at h2
      | cons y b =>
        unfold listLt at h1 h2
        by_cases e : x = y
        · subst e
          rw [if_pos rfl] at h1 h2
          rw [ih b h1 h2]
        · rw [if_neg e] at h1
          rw [if_neg (fun q => e q.symm)] at h2
          have h1 : ¬ x < y := of_decide_eq_false h1
          have h2 : ¬ y < x := of_decide_eq_false h2
          omega
def kindsL : List Str := ["straight flush", "four", "full house", "flush", "straight", "three", "two pairs", "pair", "high"]
theorem kind5_mem (st fl : Bool) (last : Int) (cs : List Int) : kind5 st fl last cs ∈ kindsL := by
  unfold kind5
  split
  · decide
  split
  · decide
  split
  · decide
  split
  · decide
  split
  · decide
  split
  · decide
  split
  · decide
  split <;> decide
theorem kindS_mem (zs : List Str) : kindS zs ∈ kindsL := kind5_mem _ _ _ _
def pickS (zs : List Str) (r : List Nat) : List Str := r.map fun i => zs.getD i ⟨#[]⟩
def riL (r : List Nat) : List Int := r.map fun (i : Nat) => (i : Int)
theorem riL_inj : ∀ {r r' : List Nat}, riL r = riL r' → r = r'
  | [], [], _ => rfl
  | [], _ :: _, h => by cases h
  | _ :: _, [], h => by cases h
  | a :: r, b :: r', h => by
    unfold riL at h
    rw [List.map_cons, List.map_cons] at h
    injection h with h1 h2
    rw [riL_inj h2, Int.ofNat.inj h1]
def kix (zs : List Str) (r : List Nat) : Int := (kindsL.idxOf (kindS (pickS zs r)) : Nat)
def keyLt (zs : List Str) (r r' : List Nat) : Bool := if kix zs r = kix zs r' then listLt (riL r) (riL r') else decide (kix zs r < kix zs r')
def so_key (zs : List Str) : SO (keyLt zs) where
  tr := by
    intro a b c h1 h2
    unfold keyLt at h1 h2 ⊢
    by_cases e1 : kix zs a = kix zs b
    · rw [if_pos e1] at h1
      rw [e1]
      by_cases e2 : kix zs b = kix zs c
      · rw [if_pos e2] at h2 ⊢
        exact so_listI.tr _ _ _ h1 h2
      · rw [if_neg e2] at h2 ⊢
        exact h2
    · rw [if_neg e1] at h1
      have h1 := of_decide_eq_true h1
      by_cases e2 : kix zs b = kix zs c
      · rw [← e2, if_neg e1]
        exact decide_eq_true h1
      · rw [if_neg e2] at h2
        have h2 := of_decide_eq_true h2
        rw [if_neg (by omega)]
        exact decide_eq_true (by omega)
  ir a := by
    unfold keyLt
    rw [if_pos rfl]
    exact so_listI.ir _
  to := by
    intro a b h1 h2
    unfold keyLt at h1 h2
    by_cases e : kix zs a = kix zs b
    · rw [if_pos e] at h1
      rw [if_pos e.symm] at h2
      exact riL_inj (so_listI.to _ _ h1 h2)
    · rw [if_neg e] at h1
      rw [if_neg (fun q => e q.symm)] at h2
      have h1 := of_decide_eq_false h1
      have h2 := of_decide_eq_false h2
      omega
def Row5 (n : Nat) (r : List Nat) : Prop := r.length = 5 ∧ r.Pairwise (· < ·) ∧ ∀ x ∈ r, x < n
def IsBest (zs : List Str) (r : List Nat) : Prop := Row5 zs.length r ∧ ∀ r', Row5 zs.length r' → keyLt zs r' r = false
theorem best_uniq {zs : List Str} {r r' : List Nat} (h : IsBest zs r) (h' : IsBest zs r') : r = r' := (so_key zs).to _ _ (h'.2 r h.1) (h.2 r' h'.1)

/-! the data -/
def keyP (zs : List Str) (r : List Nat) : PyData := .tuple [.int (kix zs r), .tuple ((riL r).map .int), .tuple ((pickS zs r).map .str)]
def keyD (zs : List Str) (r : List Nat) : D := .tup [.int (kix zs r), .tup ((riL r).map .int), .tup ((pickS zs r).map .str)]
theorem alike_key (zs : List Str) (r r' : List Nat) : alike (keyP zs r) (keyP zs r') = true := by
  have h1 := alikeAll_map (riL r) (riL r')
  have h2 := alikeAll_map (pickS zs r) (pickS zs r')
  unfold keyP
  simp only [alike, alikeAll, Bool.and_true, Bool.true_and, Bool.and_eq_true]
  exact ⟨h1, h2⟩
theorem lt_key (zs : List Str) (r r' : List Nat) : dataLt (keyP zs r) (keyP zs r') = keyLt zs r r' := by
  unfold keyP keyLt
  rw [dataLt_tuple]
  by_cases e : kix zs r = kix zs r'
  · rw [if_pos e, dataLt_all_yes (by simp [alike]) (by rw [enc_int.eq]; exact decide_eq_true e)]
    by_cases e2 : r = r'
    · subst e2
      rw [so_listI.ir]
      exact lex_irrefl _
    · rw [dataLt_all_no (by simp only [alike]; exact alikeAll_map (riL r) (riL r')) (by rw [enc_int.tup.eq]; exact decide_eq_false fun q => e2 (riL_inj q))]
      rw [dataLt_tuple]
      exact lexAll_map (riL r) (riL r')
  · rw [if_neg e, dataLt_all_no (by simp [alike]) (by rw [enc_int.eq]; exact decide_eq_false e), dataLt_int]
theorem py_tup2 {W : OW} {d1 d2 : D} {p1 p2 : PyData} (h1 : Py W d1 p1) (h2 : Py W d2 p2) : Py W (.tup [d1, d2]) (.tuple [p1, p2]) := by
  refine .tup rfl fun i d p e1 e2 => ?_
  match i, e1, e2 with
  | 0, e1, e2 => cases e1; cases e2; exact h1
  | 1, e1, e2 => cases e1; cases e2; exact h2
  | i + 2, e1, e2 => simp at e1
theorem py_tup3 {W : OW} {d1 d2 d3 : D} {p1 p2 p3 : PyData} (h1 : Py W d1 p1) (h2 : Py W d2 p2) (h3 : Py W d3 p3) : Py W (.tup [d1, d2, d3]) (.tuple [p1, p2, p3]) := by
  refine .tup rfl fun i d p e1 e2 => ?_
  match i, e1, e2 with
  | 0, e1, e2 => cases e1; cases e2; exact h1
  | 1, e1, e2 => cases e1; cases e2; exact h2
  | 2, e1, e2 => cases e1; cases e2; exact h3
  | i + 3, e1, e2 => simp at e1
theorem py_key {W : OW} (zs : List Str) (r : List Nat) : Py W (keyD zs r) (keyP zs r) := py_tup3 (.int _) (Py.intsT _) (Py.strsT _)
theorem shaped_key {zs : List Str} {r : List Nat} (h : ∀ z ∈ pickS zs r, PyData.strOk z = true) : SeqAt.shaped (keyP zs r) = true := by
  have h1 := (enc_int.tup).lay (riL r) fun _ _ => trivial
  have h2 := (enc_str.tup).lay (pickS zs r) h
  have a : (PyData.tuple ((riL r).map PyData.int)).depth ≤ 1 := enc_int.tup.dep (riL r)
  have b : (PyData.tuple ((pickS zs r).map PyData.str)).depth ≤ 1 := enc_str.tup.dep (pickS zs r)
  unfold SeqAt.shaped
  rw [Bool.and_eq_true]
  refine ⟨?_, decide_eq_true ?_⟩
  · unfold keyP
    simp only [PyData.canLay0, PyData.canLayAll0] at h1 h2 ⊢
    rw [h1, h2]
    rfl
  · unfold keyP
    rw [PyData.depth, PyData.depthAll, PyData.depthAll, PyData.depthAll, PyData.depthAll]
    have c : (PyData.int (kix zs r)).depth = 0 := by rw [PyData.depth]
    simp only [Nat.max_def]
    split <;> split <;> split <;> omega

/-! the walk over rows of places -/
abbrev Ent := List Nat × Nat
def Cov (left : List Ent) (r : List Nat) : Prop := ∃ e ∈ left, ∃ t, r = e.1 ++ t ∧ ∀ x ∈ t, e.2 ≤ x
def OkEnt (n : Nat) (e : Ent) : Prop := e.1.Pairwise (· < ·) ∧ (∀ x ∈ e.1, x < e.2) ∧ e.2 ≤ n ∧ e.1.length ≤ 5
def pushed (e : Ent) (i : Nat) : List Ent := (List.range i).map fun j => (e.1 ++ [e.2 + j], e.2 + j + 1)
def wt (n : Nat) (left : List Ent) : Nat := (left.map fun e => 2 ^ (n - e.2)).sum
theorem wt_append (n : Nat) (a b : List Ent) : wt n (a ++ b) = wt n a + wt n b := by
  unfold wt
  rw [List.map_append, List.sum_append]
theorem wt_len (n : Nat) : ∀ left : List Ent, left.length ≤ wt n left
  | [] => Nat.le_refl _
  | e :: l => by
    have := wt_len n l
    have h2 : 0 < 2 ^ (n - e.2) := Nat.two_pow_pos _
    unfold wt at this ⊢
    rw [List.map_cons, List.sum_cons, List.length_cons]
    omega
theorem wt_pushed (n : Nat) (e : Ent) : ∀ i, i ≤ n - e.2 → wt n (pushed e i) + 2 ^ (n - e.2 - i) = 2 ^ (n - e.2)
  | 0, _ => by simp [wt, pushed]
  | i + 1, h => by
    have ih := wt_pushed n e i (by omega)
    have e1 : pushed e (i + 1) = pushed e i ++ [(e.1 ++ [e.2 + i], e.2 + i + 1)] := by
      unfold pushed
      rw [List.range_succ, List.map_append]
      rfl
    rw [e1, wt_append, ← ih]
    have e2 : wt n [(e.1 ++ [e.2 + i], e.2 + i + 1)] = 2 ^ (n - e.2 - (i + 1)) := by
      show 2 ^ (n - (e.2 + i + 1)) + 0 = _
      rw [Nat.add_zero, show n - (e.2 + i + 1) = n - e.2 - (i + 1) by omega]
    rw [e2, show n - e.2 - i = (n - e.2 - (i + 1)) + 1 by omega, Nat.pow_succ]
    omega
theorem pushed_ok {n : Nat} {e : Ent} (h : OkEnt n e) (h4 : e.1.length < 5) : ∀ x ∈ pushed e (n - e.2), OkEnt n x := by
  intro x hx
  obtain ⟨j, hj, rfl⟩ := List.mem_map.mp hx
  rw [List.mem_range] at hj
  refine ⟨List.pairwise_append.mpr ⟨h.1, List.pairwise_singleton _ _, fun a ha b hb => ?_⟩, fun y hy => ?_, ?_, ?_⟩
  · rw [List.mem_singleton] at hb
    have := h.2.1 a ha
    omega
  · show y < e.2 + j + 1
    rcases List.mem_append.mp hy with hy | hy
    · have := h.2.1 y hy
      omega
    · rw [List.mem_singleton] at hy
      omega
  · show e.2 + j + 1 ≤ n
    omega
  · show (e.1 ++ [e.2 + j]).length ≤ 5
    rw [List.length_append]
    exact h4
theorem cov_pushed {n : Nat} {e : Ent} {rest : List Ent} {r : List Nat} (h4 : e.1.length < 5) (hr : Row5 n r) (h : Cov (rest ++ [e]) r) : Cov (rest ++ pushed e (n - e.2)) r := by
  obtain ⟨x, hx, t, e1, ht⟩ := h
  rcases List.mem_append.mp hx with hx | hx
  · exact ⟨x, List.mem_append_left _ hx, t, e1, ht⟩
  · rw [List.mem_singleton] at hx
    subst hx
    obtain ⟨h5, hp, hn⟩ := hr
    cases t with
    | nil =>
      rw [List.append_nil] at e1
      rw [e1] at h5
      omega
    | cons p t =>
      have hpn : p < n := hn p (by rw [e1]; simp)
      have hps := ht p List.mem_cons_self
      refine ⟨(x.1 ++ [x.2 + (p - x.2)], x.2 + (p - x.2) + 1), List.mem_append_right _ (List.mem_map.mpr ⟨p - x.2, List.mem_range.mpr (by omega), rfl⟩), t, ?_, fun y hy => ?_⟩
      · rw [e1, show x.2 + (p - x.2) = p by omega, List.append_assoc]
        rfl
      · rw [e1, List.pairwise_append] at hp
        have := (List.pairwise_cons.mp hp.2.1).1 y hy
        show x.2 + (p - x.2) + 1 ≤ y
        omega
theorem cov_full {n : Nat} {e : Ent} {rest : List Ent} {r : List Nat} (h5 : e.1.length = 5) (hr : Row5 n r) (h : Cov (rest ++ [e]) r) : Cov rest r ∨ r = e.1 := by
  obtain ⟨x, hx, t, e1, ht⟩ := h
  rcases List.mem_append.mp hx with hx | hx
  · exact .inl ⟨x, hx, t, e1, ht⟩
  · rw [List.mem_singleton] at hx
    subst hx
    refine .inr ?_
    have := hr.1
    rw [e1, List.length_append, h5] at this
    rw [e1, List.eq_nil_of_length_eq_zero (by omega : t.length = 0), List.append_nil]
theorem pick_get {zs : List Str} {i : Nat} (h : i < zs.length) : zs.getD i ⟨#[]⟩ = zs[i] := by
  rw [List.getD_eq_getElem?_getD, List.getElem?_eq_getElem h]
  rfl
theorem rowOk_nodup {zs : List Str} (h : rowOk zs = true) : zs.Nodup := by
  unfold rowOk at h
  rw [Bool.and_eq_true] at h
  exact of_decide_eq_true h.2
theorem pick_ok {zs : List Str} {r : List Nat} (h : rowOk zs = true) (hp : r.Pairwise (· < ·)) (hn : ∀ x ∈ r, x < zs.length) : rowOk (pickS zs r) = true := by
  have h1 := rowOk_all h
  have h2 := rowOk_nodup h
  unfold rowOk pickS
  rw [Bool.and_eq_true]
  refine ⟨List.all_eq_true.mpr fun z hz => ?_, decide_eq_true ?_⟩
  · obtain ⟨i, hi, rfl⟩ := List.mem_map.mp hz
    rw [pick_get (hn i hi)]
    exact h1 _ (List.getElem_mem _)
  · refine List.pairwise_map.mpr (List.pairwise_iff_getElem.mpr fun a b ha hb hab e => ?_)
    rw [pick_get (hn _ (List.getElem_mem ha)), pick_get (hn _ (List.getElem_mem hb))] at e
    have := (List.getElem_inj h2).mp e
    have := List.pairwise_iff_getElem.mp hp a b ha hb hab
    omega
def rows7 : List (List Nat) := [[0, 1, 2, 3, 4], [0, 1, 2, 3, 5], [0, 1, 2, 3, 6], [0, 1, 2, 4, 5], [0, 1, 2, 4, 6], [0, 1, 2, 5, 6], [0, 1, 3, 4, 5], [0, 1, 3, 4, 6], [0, 1, 3, 5, 6], [0, 1, 4, 5, 6], [0, 2, 3, 4, 5], [0, 2, 3, 4, 6], [0, 2, 3, 5, 6], [0, 2, 4, 5, 6], [0, 3, 4, 5, 6], [1, 2, 3, 4, 5], [1, 2, 3, 4, 6], [1, 2, 3, 5, 6], [1, 2, 4, 5, 6], [1, 3, 4, 5, 6], [2, 3, 4, 5, 6]]
theorem rows7_ok : rows7.all (fun r => decide (r.length = 5) && decide (r.Pairwise (· < ·))) = true := by decide
theorem two_in' : ([5, 6, 7].all fun n => (List.range n).all fun i => (List.range n).all fun j => rows7.any fun r => (r.all fun x => decide (x < n)) && (r.contains i && r.contains j)) = true := by decide
theorem two_in (n : Nat) (hn : n ∈ [5, 6, 7]) (i : Nat) (hi : i < n) (j : Nat) (hj : j < n) : ∃ r, r ∈ rows7 ∧ r.length = 5 ∧ r.Pairwise (· < ·) ∧ (∀ x ∈ r, x < n) ∧ i ∈ r ∧ j ∈ r := by
  have h := List.all_eq_true.mp (List.all_eq_true.mp (List.all_eq_true.mp two_in' n hn) i (List.mem_range.mpr hi)) j (List.mem_range.mpr hj)
  obtain ⟨r, hr, h⟩ := List.any_eq_true.mp h
  have h2 := List.all_eq_true.mp rows7_ok r hr
  simp only [Bool.and_eq_true, decide_eq_true_eq, List.contains_iff_mem] at h h2
  exact ⟨r, hr, h2.1, h2.2, fun x hx => of_decide_eq_true (List.all_eq_true.mp h.1 x hx), h.2.1, h.2.2⟩
theorem bad_pick {zs : List Str} (h : rowOk zs = false) (h5 : 5 ≤ zs.length) (h7 : zs.length ≤ 7) : ∃ r, Row5 zs.length r ∧ rowOk (pickS zs r) = false := by
  have hn : zs.length ∈ [5, 6, 7] := by
    simp only [List.mem_cons, List.not_mem_nil, or_false]
    omega
  unfold rowOk at h
  rw [Bool.and_eq_false_iff] at h
  rcases h with h | h
  · obtain ⟨z, hz, hb⟩ : ∃ z ∈ zs, okc z = false := by
      rw [List.all_eq_false] at h
      obtain ⟨z, hz, e⟩ := h
      exact ⟨z, hz, Bool.eq_false_iff.mpr e⟩
    obtain ⟨i, hi, rfl⟩ := List.getElem_of_mem hz
    obtain ⟨r, _, h1, h2, h3, h4, _⟩ := two_in _ hn i hi i hi
    refine ⟨r, ⟨h1, h2, h3⟩, ?_⟩
    unfold rowOk
    rw [Bool.and_eq_false_iff]
    refine .inl (List.all_eq_false.mpr ⟨zs[i], List.mem_map.mpr ⟨i, h4, pick_get hi⟩, by rw [hb]; exact Bool.false_ne_true⟩)
  · have hd := of_decide_eq_false h
    obtain ⟨i, j, hi, hj, hij, e⟩ : ∃ i j, ∃ (hi : i < zs.length) (hj : j < zs.length), i < j ∧ zs[i] = zs[j] := by
      rw [List.nodup_iff_pairwise_ne, List.pairwise_iff_getElem] at hd
      simp only [Classical.not_forall, Decidable.not_not] at hd
      obtain ⟨i, j, hi, hj, hij, e⟩ := hd
      exact ⟨i, j, hi, hj, hij, e⟩
    obtain ⟨r, _, h1, h2, h3, h4, h6⟩ := two_in _ hn i hi j hj
    refine ⟨r, ⟨h1, h2, h3⟩, ?_⟩
    unfold rowOk
    rw [Bool.and_eq_false_iff]
    refine .inr (decide_eq_false fun q => ?_)
    have q := List.pairwise_map.mp q
    have : zs.getD i ⟨#[]⟩ ≠ zs.getD j ⟨#[]⟩ := by
      obtain ⟨a, ha, ea⟩ := List.getElem_of_mem h4
      obtain ⟨b, hb, eb⟩ := List.getElem_of_mem h6
      have hab : a < b := by
        rcases Nat.lt_trichotomy a b with x | x | x
        · exact x
        · subst x
          omega
        · have := (List.pairwise_iff_getElem.mp h2) b a hb ha x
          omega
      have := (List.pairwise_iff_getElem.mp q) a b ha hb hab
      rw [ea, eb] at this
      exact this
    rw [pick_get hi, pick_get hj] at this
    exact this e
end K1
set_option Elab.async false
set_option linter.all false
set_option maxRecDepth 100000
set_option maxHeartbeats 2000000
set_option autoImplicit false
namespace Sh
open PySem PySem.Spec PyProof.Rows L2
section
variable {F : CF} {Γ : Ga} {W W1 W2 W3 : OW} {pos p : Pos} {a b c e : Expr} {d d1 d2 d3 : D} {o : Out}
/-- t.index(e): e raises -/
theorem ev_tindexE {ds : List D} {cl : Addr} {apos : Pos} (ho : EV F a Γ W (.ok (.tup ds)) W1) (ha : EV F e Γ W1 (.er cl) W2)
    (hbase : ∀ env, attributeBase a "index" env (eval a env) = eval a env := by intro _; rfl)
    (hfew : ∀ env, ((backTo pos (starEach [e] env)).all (fun x => !x.1) && (backToKw pos (keywordEach [] env)).all (fun x => x.1.isSome) && decide ([e].length + ([] : List Keyword).length + (if ([] : List Keyword).isEmpty then 0 else 1) < 30)) = true := by intro _; rfl)
    (hline : (apos.endLine == pos.line) = true := by rfl) (hs : ∀ env, starEach [e] env = (false, eval e env) :: starEach [] env := by intro _; rfl) : EV F (.Call (.Attribute a "index" apos) [e] [] pos) Γ W (.er cl) W2 :=
  fun G H σ Q sl hk k => ⟨StepS.tTM F.K (StepS.rIndexT F.K) (cE F a) (cA F [e]), fun X hX => hX.K ▸ StepS.pe_tm PySem.F.plainAttrs_tuple PySem.F.slot_tuple_index PySem.F.type_tuple_index (StepS.mt_indexT hX.un) (cE_pe hX) (cA_pa hX) (hbase _) (hfew _) hline (hs _) rfl,
    ho G H σ _ sl hk fun x G1 H1 t1 r1 => by
      refine ⟨?_, (ea_er ha hs) G1 H1 σ _ (sl.mono t1.le) t1.hk fun G2 H2 t2 => k G2 H2 (t1.trans t2)⟩
      obtain ⟨b, ws, rfl, e1, _⟩ := r1.tup_inv
      rcases e1 with ⟨o, e2, e3⟩ | ⟨o, its, n, e2, e3, e4, _⟩
      · exact ⟨b, rfl, .inl ⟨o, ws, t1.hk.sub _ _ e2, e3⟩⟩
      · exact ⟨b, rfl, .inr ⟨o, e2, e3, e4⟩⟩⟩
end
end Sh
namespace K1
open PySem PySem.Spec PySem.W PyProof.Rows L2 Sh
abbrev st_best_five : Stmt := topS 17
theorem sc_best_five : FnScope ["cards", "best", "left", "row", "start", "places", "five", "found", "place"] ["cards"] (defScope st_best_five) := ⟨rfl, rfl, rfl, by decide +kernel, rfl, by decide +kernel, by decide +kernel⟩
/-- the tuple of the kinds -/
structure Kinds (K : PySem.W.Frag) (mg : Str → Option Value) : Prop where
  ex : ∃ a, mg "KINDS" = some (.ref a) ∧ ∀ G, Rp K G (.ref a) (.tup (kindsL.map .str))
theorem ev_kinds {F : CF} {Γ : Ga} {W : OW} {pos : Pos} (Kd : Kinds F.K F.mg) (hg : GlS F "KINDS") : EV F (.Name "KINDS" pos) Γ W (.ok (.tup (kindsL.map .str))) W := by
  obtain ⟨a, h1, h2⟩ := Kd.ex
  exact ev_glob (v := .ref a) hg h1 rfl h2
theorem kinds_ok : ∀ z ∈ kindsL, PyData.strOk z = true := by decide +kernel
inductive SBest (CD : Addr) : Law
  | ok (d : D) (zs : List Str) (hd : SeqF d (zs.map .str)) (hz : shortRow zs) (h : rowOk zs = true) (h5 : 5 ≤ zs.length) (h7 : zs.length ≤ 7) (r : List Nat) (hr : IsBest zs r) : SBest CD [d] [] (.ok (.tup [.str (kindS (pickS zs r)), .tup ((pickS zs r).map .str)])) []
  | er (d : D) (zs : List Str) (hd : SeqF d (zs.map .str)) (hz : shortRow zs) (h : rowOk zs = false ∨ ¬ (5 ≤ zs.length ∧ zs.length ≤ 7)) : SBest CD [d] [] (.er CD) []
def entD (e : Ent) : D := .tup [.tup ((riL e.1).map .int), .int (e.2 : Int)]
def entP (e : Ent) : PyData := .tuple [.tuple ((riL e.1).map .int), .int (e.2 : Int)]
theorem py_ent {W : OW} (e : Ent) : Py W (entD e) (entP e) := py_tup2 (Py.intsT _) (.int _)
theorem enc_ent : Enc (fun _ : Ent => True) entP 2 := ⟨fun e _ => by
    have h1 := (enc_int.tup).lay (riL e.1) fun _ _ => trivial
    unfold entP
    simp only [PyData.canLay0, PyData.canLayAll0] at h1 ⊢
    rw [h1]
    rfl, fun e => by
    have a : (PyData.tuple ((riL e.1).map PyData.int)).depth ≤ 1 := enc_int.tup.dep (riL e.1)
    have c : (PyData.int (e.2 : Int)).depth = 0 := by rw [PyData.depth]
    unfold entP
    rw [PyData.depth, PyData.depthAll, PyData.depthAll, PyData.depthAll]
    simp only [Nat.max_def]
    split <;> split <;> omega, fun x y => by
    have h1 := enc_int.tup.eq (riL x.1) (riL y.1)
    have h2 := enc_int.eq (x.2 : Int) (y.2 : Int)
    unfold entP
    rw [PyData.eqv, PyData.eqvAll, PyData.eqvAll, PyData.eqvAll, h1, h2, Bool.and_true]
    by_cases e : x = y
    · subst e
      simp
    · rw [decide_eq_false e, Bool.and_eq_false_iff]
      by_cases e1 : riL x.1 = riL y.1
      · refine .inr (decide_eq_false fun q => e ?_)
        exact Prod.ext (riL_inj e1) (Int.ofNat.inj q)
      · exact .inl (decide_eq_false e1)⟩
def bestD (zs : List Str) : Option (List Nat) → D
  | none => .non
  | some r => keyD zs r
structure Inv5 (zs : List Str) (left : List Ent) (best : Option (List Nat)) : Prop where
  ent : ∀ e ∈ left, OkEnt zs.length e
  cov : ∀ r, Row5 zs.length r → Cov left r ∨ (rowOk (pickS zs r) = true ∧ ∃ b, best = some b ∧ keyLt zs r b = false)
  bst : ∀ b, best = some b → Row5 zs.length b ∧ rowOk (pickS zs b) = true
theorem inv5_0 (zs : List Str) : Inv5 zs [([], 0)] none := by
  refine ⟨fun e he => ?_, fun r _ => .inl ⟨([], 0), List.mem_singleton.mpr rfl, r, rfl, fun _ _ => Nat.zero_le _⟩, fun b q => by cases q⟩
  rw [List.mem_singleton] at he
  subst he
  exact ⟨.nil, fun x hx => by simp at hx, Nat.zero_le _, Nat.zero_le _⟩
theorem inv5_push {zs : List Str} {rest : List Ent} {e : Ent} {best : Option (List Nat)} (h : Inv5 zs (rest ++ [e]) best) (h4 : e.1.length < 5) : Inv5 zs (rest ++ pushed e (zs.length - e.2)) best := by
  have he := h.ent e (by simp)
  refine ⟨fun x hx => ?_, fun r hr => ?_, h.bst⟩
  · rcases List.mem_append.mp hx with hx | hx
    · exact h.ent x (List.mem_append_left _ hx)
    · exact pushed_ok he h4 x hx
  · rcases h.cov r hr with q | q
    · exact .inl (cov_pushed h4 hr q)
    · exact .inr q
def next5 (zs : List Str) (best : Option (List Nat)) (r : List Nat) : List Nat := match best with
  | none => r
  | some b => if keyLt zs r b = true then r else b
theorem inv5_full {zs : List Str} {rest : List Ent} {e : Ent} {best : Option (List Nat)} (h : Inv5 zs (rest ++ [e]) best) (h5 : e.1.length = 5) (hok : rowOk (pickS zs e.1) = true) : Inv5 zs rest (some (next5 zs best e.1)) := by
  have he := h.ent e (by simp)
  have hr5 : Row5 zs.length e.1 := ⟨h5, he.1, fun x hx => Nat.lt_of_lt_of_le (he.2.1 x hx) he.2.2.1⟩
  have S := so_key zs
  refine ⟨fun x hx => h.ent x (List.mem_append_left _ hx), fun r hr => ?_, fun b q => ?_⟩
  · have fin : ∀ b, best = some b → keyLt zs r b = false → keyLt zs r (next5 zs best e.1) = false := fun b eb hb => by
      subst eb
      unfold next5
      by_cases q : keyLt zs e.1 b = true
      · simp only [q, if_true]
        refine Bool.eq_false_iff.mpr fun z => ?_
        have := S.tr _ _ _ z q
        rw [hb] at this
        cases this
      · simp only [q]
        exact hb
    rcases h.cov r hr with q | ⟨q, b, eb, hb⟩
    · rcases cov_full h5 hr q with q | q
      · exact .inl q
      · subst q
        refine .inr ⟨hok, _, rfl, ?_⟩
        cases best with
        | none => exact S.ir _
        | some b =>
          unfold next5
          by_cases q : keyLt zs e.1 b = true
          · simp only [q, if_true]
            exact S.ir _
          · simp only [q]
            exact Bool.eq_false_iff.mpr q
    · exact .inr ⟨q, _, rfl, fin b eb hb⟩
  · cases q
    cases best with
    | none => exact ⟨hr5, hok⟩
    | some b =>
      unfold next5
      by_cases q : keyLt zs e.1 b = true
      · simp only [q, if_true]
        exact ⟨hr5, hok⟩
      · simp only [q]
        exact h.bst b rfl
theorem Inv5.isBest {zs : List Str} {b : List Nat} (h : Inv5 zs [] (some b)) : IsBest zs b := ⟨(h.bst b rfl).1, fun r hr => by
  rcases h.cov r hr with ⟨e, he, _⟩ | ⟨_, b', e, q⟩
  · cases he
  · cases e
    exact q⟩
section
variable {P : Program} {w : World} {K : PySem.W.Frag} {mg : Str → Option Value} {base : Heap} {T : Tb} {CD : Addr}
theorem ok_best_five {f : Addr} {fd : FuncData} {k : Nat} {c P0 : Addr} (D : Deck K mg CD) (Kd : Kinds K mg) (htup : mg "tuple" = none) (hrng : mg "range" = none) (hkind : Fd P w K mg base T "hand_kind" k 1 (SKind CD)) (tab : fd.code = .ref c ∧ GxR.TabB base mg c P0 ∧ P0 ∈ T.g ∧ P0 ∉ T.l.map (·.1)) (hk : 3 ≤ k) (Fu : Fun K "best_five" "best_five" st_best_five f fd) : FnOk P w K mg base (L2.CX P w) (k + 1) f fd ["cards"] (spOf K T (SBest CD)) := by
  refine fn_def Fu sc_best_five (fun ds W o W' h => by cases h <;> rfl) fun cl E ds W o W' h => ?_
  obtain ⟨d, zs, hd, hz, e1, e2, e3, hout⟩ : ∃ d zs, SeqF d (zs.map Sh.D.str) ∧ shortRow zs ∧ ds = [d] ∧ W = [] ∧ W' = [] ∧ ((rowOk zs = true ∧ (5 ≤ zs.length ∧ zs.length ≤ 7) ∧ ∃ r, IsBest zs r ∧ o = .ok (.tup [.str (kindS (pickS zs r)), .tup ((pickS zs r).map .str)])) ∨ ((rowOk zs = false ∨ ¬ (5 ≤ zs.length ∧ zs.length ≤ 7)) ∧ o = .er CD)) := by
    cases h with
    | ok d zs hd hz h h5 h7 r hr => exact ⟨d, zs, hd, hz, rfl, rfl, rfl, .inl ⟨h, ⟨h5, h7⟩, r, hr, rfl⟩⟩
    | er d zs hd hz h => exact ⟨d, zs, hd, hz, rfl, rfl, rfl, .inr ⟨h, rfl⟩⟩
  subst e1 e2 e3
  have hcs := fun {p : Pos} {Γ : Ga} {W : OW} (e : Γ[0]? = some (some d)) => ev_var (F := ⟨P, w, K, mg, base, ["cards", "best", "left", "row", "start", "places", "five", "found", "place"], defScope st_best_five, k, fd.code, E, T, "best_five" ++ ".<locals>.", some cl⟩) (pos := p) (W := W) 0 (x := "cards") rfl (.inr (.inl rfl)) e
  refine ss_cons (s1_if (r := !decide (5 ≤ zs.length ∧ zs.length ≤ 7)) (ET.to (et_not (et_chain ev_int (ev_len (by rfl) D.len (hcs rfl) (hd.len _)) (.leI _ _) (fun _ => ev_int) (fun _ => .leI _ _))) ?_) (fun hr => ?_) fun hr => ss_nil ?_)
  · rw [List.length_map, ← Bool.decide_and]
    congr 1
    exact decide_eq_decide.mpr ⟨fun q => ⟨by omega, by omega⟩, fun q => ⟨by omega, by omega⟩⟩
  · have hn : ¬ (5 ≤ zs.length ∧ zs.length ≤ 7) := of_decide_eq_false (by simpa only [Bool.not_eq_true'] using hr)
    refine ss_one (s1_raise D.err (by rfl) ⟨?_, .nil _⟩)
    rcases hout with ⟨_, q, _⟩ | ⟨_, q⟩
    · exact absurd q hn
    · exact q
  have hn : 5 ≤ zs.length ∧ zs.length ≤ 7 := of_decide_eq_true (by simpa only [Bool.not_eq_false'] using hr)
  refine ss_cons (s1_par 1 2 rfl rfl (by decide) rfl rfl (ear_cons (evr_of ev_non (ear_cons (evr_new (en_lst (ds := [entD ([], 0)]) (ea_cons (ev_tup (ea_cons (ev_tup ea_nil (by decide)) (ea_cons ev_int ea_nil)) (by decide)) ea_nil) (by decide)) fun q => ear_nil ⟨_, _, rfl, ?_⟩)))) (fun env he => by
    obtain ⟨a1, a2, a3, a4, a5, a6, a7, a8, a9⟩ := env
    cases he
    rfl))
  refine ss_cons (s1_while (fun m Γ' W' => ∃ left best x3 x4 x5 x6 x7 x8, Γ' = [some d, some (bestD zs best), some (.ptr q), x3, x4, x5, x6, x7, x8] ∧ W' = [(q, .lst (left.map entD))] ∧ m = wt zs.length left ∧ m ≤ 128 ∧ Inv5 zs left best) (wt zs.length [([], 0)]) ⟨[([], 0)], none, _, _, _, _, _, _, rfl, rfl, rfl, ?_, inv5_0 zs⟩ fun m Γ' W' hI => ?_)
  · show 2 ^ (zs.length - 0) + 0 ≤ 128
    exact Nat.pow_le_pow_right (by decide) (by omega : zs.length - 0 ≤ 7)
  obtain ⟨left, best, x3, x4, x5, x6, x7, x8, rfl, rfl, rfl, hm, inv⟩ := hI
  refine ⟨!decide (left = []), _, ET.to (et_cmpR (ev_var 2 rfl (.inl rfl) rfl) (EN.ev (en_lst ea_nil (by decide))) (.neD (q := .list ([].map entP)) (.own (i := 0) rfl (by simp) (fun i d p h1 h2 => ?_)) (.lst rfl (fun i d p h1 h2 => by simp at h1)) (enc_ent.list.shaped (by decide) (a := left) fun _ _ => trivial) (enc_ent.list.shaped (by decide) (a := []) fun _ _ => trivial) rfl)) (congrArg (!·) (enc_ent.list.eq left [])), fun hr => ?_, fun hr => ?_⟩
  · rw [List.getElem?_map] at h1 h2
    cases e : left[i]? with
    | none => rw [e] at h1; cases h1
    | some x =>
      rw [e] at h1 h2
      cases h1
      cases h2
      exact py_ent x
  · have hne : left ≠ [] := by simpa using hr
    obtain ⟨rest, e, rfl⟩ : ∃ rest e, left = rest ++ [e] := ⟨_, _, (List.dropLast_concat_getLast hne).symm⟩
    have he := inv.ent e (by simp)
    rw [wt_append] at hm ⊢
    have hwe : wt zs.length [e] = 2 ^ (zs.length - e.2) := Nat.add_zero _
    have hw1 : 0 < wt zs.length [e] := by rw [hwe]; exact Nat.two_pow_pos _
    have hrl := wt_len zs.length rest
    rw [List.map_append, List.map_singleton]
    refine ss_cons (s1_asg (evr_of (ev_pop (i := 0) (ds := rest.map entD) (d := entD e) (ev_var 2 rfl (.inl rfl) rfl) rfl) ⟨_, _, eg_tup (fun X h => h.toG) (egs_cons (eg_name (fun X h => h.toG) 3 rfl (.inl rfl)) (egs_cons (eg_name (fun X h => h.toG) 4 rfl (.inl rfl)) egs_nil)) rfl, ?_⟩))
    refine ss_cons (s1_if (r := decide (e.1.length = 5)) (ET.to (et_cmpR (ev_len (by rfl) D.len (ev_var 3 rfl (.inl rfl) rfl) (.tup _)) ev_int (.eqI _ _)) ?_) (fun h5 => ?_) fun h5 => ss_nil ?_)
    · unfold riL
      rw [List.length_map, List.length_map]
      exact decide_eq_decide.mpr ⟨fun q => by exact_mod_cast q, fun q => by exact_mod_cast q⟩
    · have h5 : e.1.length = 5 := of_decide_eq_true h5
      have hen : ∀ x ∈ e.1, x < zs.length := fun x hx => Nat.lt_of_lt_of_le (he.2.1 x hx) he.2.2.1
      have hr5 : Row5 zs.length e.1 := ⟨h5, he.1, hen⟩
      have hpl : (pickS zs e.1).length = 5 := by
        unfold pickS
        rw [List.length_map, h5]
      have hps : shortRow (pickS zs e.1) := ⟨by omega, fun z hz' => by
        obtain ⟨i, hi, rfl⟩ := List.mem_map.mp hz'
        rw [pick_get (hen i hi)]
        exact hz.2 _ (List.getElem_mem _)⟩
      refine ss_cons (s1_set 5 rfl (.inl rfl) (evr_of (ev_tupleT (by rfl) htup (ev_var 3 rfl (.inl rfl) rfl)) ?_))
      refine ss_cons (s1_set 6 rfl (.inl rfl) (evr_of (ev_tupG (outs := (pickS zs e.1).map Sh.D.str) (by rfl) htup (GenH.to (gen_hM (own := [("place", 8)]) (fun x => Sh.D.str (zs.getD (intD x).toNat ⟨#[]⟩)) ⟨c, P0, tab⟩ hk sc_best_five.nd (by rfl) ⟨rfl, by decide +kernel, by rfl⟩ (ei_tup (ev_var 5 rfl (.inl rfl) rfl)) trivial (fun cd x hx => ?_)) ?_) ?_) ?_))
      · obtain ⟨j, hj, rfl⟩ := List.mem_map.mp hx
        obtain ⟨i, hi, rfl⟩ := List.mem_map.mp hj
        refine turn_map (eg_name (fun X h => h) 8 rfl (.inl (by rfl))) (by decide) (ev_ix (ev_var 0 rfl (.inr (.inr (by rfl))) rfl) (ev_var 8 rfl (.inl (by rfl)) rfl) (hd.ix (atI_nat ?_)))
        show (zs.map Sh.D.str)[i]? = some (.str (zs.getD (i : Int).toNat ⟨#[]⟩))
        rw [Int.toNat_natCast, List.getElem?_map, List.getD_eq_getElem?_getD, List.getElem?_eq_getElem (hen i hi)]
        rfl
      · rw [map_ints (fun j => Sh.D.str (zs.getD j.toNat ⟨#[]⟩))]
        unfold riL pickS
        rw [List.map_map, List.map_map]
        rfl
      · rw [List.length_map, hpl]
        decide
      cases hok : rowOk (pickS zs e.1) with
      | false =>
        refine ss_cons (s1_setE 7 rfl (.inl rfl) (ev_tupE (ea_er (ev_tindexE (ev_kinds Kd (by rfl)) (ev_pure hkind (Nat.le_refl _) (by rfl) (ea_cons (ev_var 6 rfl (.inl rfl) rfl) ea_nil) (.er _ _ .tup hps (.inl hok)))))) ⟨?_, .nil _⟩)
        rcases hout with ⟨q, _⟩ | ⟨_, q⟩
        · have := pick_ok q hr5.2.1 hr5.2.2
          rw [hok] at this
          cases this
        · exact q
      | true =>
        have hstr : ∀ z ∈ pickS zs e.1, PyData.strOk z = true := fun z hz' => okc_strOk (rowOk_all hok z hz')
        refine ss_cons (s1_set 7 rfl (.inl rfl) (evr_of (ev_tup (ea_cons (ev_indexS (zs := kindsL) (ev_kinds Kd (by rfl)) .tup (ev_pure hkind (Nat.le_refl _) (by rfl) (ea_cons (ev_var 6 rfl (.inl rfl) rfl) ea_nil) (.ok _ _ .tup hps hok hpl)) kinds_ok (kindS_mem _)) (ea_cons (ev_var 5 rfl (.inl rfl) rfl) (ea_cons (ev_var 6 rfl (.inl rfl) rfl) ea_nil))) (Nat.le_of_ble_eq_true rfl)) ?_))
        cases hb : best with
        | none =>
          subst hb
          refine ss_cons (s1_set 1 rfl (.inl rfl) (evr_of (ev_ifT (et_w (ew_orT (et_cmpR (ev_var 1 rfl (.inl rfl) rfl) ev_non .isN0))) (ev_var 7 rfl (.inl rfl) rfl)) ?_))
          exact ss_one (s1_cont ⟨_, by omega, rest, _, _, _, _, _, _, _, rfl, rfl, rfl, by omega, inv5_full inv h5 hok⟩)
        | some b =>
          subst hb
          refine ss_cons (s1_set 1 rfl (.inl rfl) (evr_of (ev_if (r := keyLt zs e.1 b) (o := .ok (bestD zs (some (next5 zs (some b) e.1)))) (ET.to (et_w (ew_orF (et_cmpR (ev_var 1 rfl (.inl rfl) rfl) ev_non (.isN (by intro h; cases h))) (ew_or1 (et_ltD (ev_var 7 rfl (.inl rfl) rfl) (ev_var 1 rfl (.inl rfl) rfl) (py_key zs e.1) (py_key zs b) (alike_key _ _ _) (by intro h; cases h) (shaped_key hstr))))) (lt_key zs e.1 b)) (fun hr => EV.to (ev_var 7 rfl (.inl rfl) rfl) ?_) fun hr => EV.to (ev_var 1 rfl (.inl rfl) rfl) ?_) ?_))
          · rw [show next5 zs (some b) e.1 = e.1 from if_pos hr]
            rfl
          · rw [show next5 zs (some b) e.1 = b from if_neg (by rw [hr]; exact Bool.false_ne_true)]
          · exact ss_one (s1_cont ⟨_, by omega, rest, _, _, _, _, _, _, _, rfl, rfl, rfl, by omega, inv5_full inv h5 hok⟩)
    · have h5 : e.1.length ≠ 5 := of_decide_eq_false h5
      have h4 : e.1.length < 5 := Nat.lt_of_le_of_ne he.2.2.2 h5
      have hwp := wt_pushed zs.length e (zs.length - e.2) (Nat.le_refl _)
      rw [Nat.sub_self, Nat.pow_zero] at hwp
      refine ss_one (s1_for (ei_range2 (by rfl) hrng (ea_cons (ev_var 4 rfl (.inl rfl) rfl) (ea_cons (ev_len (by rfl) D.len (hcs rfl) (hd.len _)) ea_nil)) ?_) (fun i Γ' W' => (∃ x, Γ' = [some d, some (bestD zs best), some (Sh.D.ptr q), some (.tup ((riL e.1).map .int)), some (.int (e.2 : Int)), x5, x6, x7, x]) ∧ W' = [(q, .lst ((rest ++ pushed e i).map entD))]) ⟨⟨_, rfl⟩, ?_⟩ (fun _ _ _ _ => trivial) (fun i dd Γ' W' hdd hI => ?_) (fun Γ' W' hI => ?_))
      · rw [List.length_map]
        have := he.2.2.1
        omega
      · show [(q, AO.lst _)] = [(q, AO.lst _)]
        rw [show pushed e 0 = [] from rfl, List.append_nil]
      · obtain ⟨⟨x, rfl⟩, rfl⟩ := hI
        obtain ⟨hi, rfl⟩ := rngD_get hdd
        rw [List.length_map] at hi
        have hpl : (pushed e i).length = i := by
          unfold pushed
          rw [List.length_map, List.length_range]
        refine ⟨_, _, eg_name (fun X h => h.toG) 8 rfl (.inl rfl), ss_one (s1_expr (evr_append (i := 0) (ev_var 2 rfl (.inl rfl) rfl) (ev_tup (ea_cons (ev_bin (ev_var 3 rfl (.inl rfl) rfl) (ev_tup (ea_cons (ev_var 8 rfl (.inl rfl) rfl) ea_nil) (Nat.le_of_ble_eq_true rfl)) (.addT _ _ ?_)) (ea_cons (ev_bin (ev_var 8 rfl (.inl rfl) rfl) ev_int (.addI _ _)) ea_nil)) (Nat.le_of_ble_eq_true rfl)) rfl rfl ?_ ⟨⟨_, rfl⟩, ?_⟩))⟩
        · unfold riL
          rw [List.length_map, List.length_map]
          exact Nat.le_trans (show e.1.length + 1 ≤ 10 by omega) (by decide)
        · rw [List.length_map, List.length_append, hpl]
          exact Nat.lt_of_le_of_lt (show rest.length + i ≤ 200 by omega) (by decide)
        · show [(q, AO.lst _)] = [(q, AO.lst _)]
          have e1 : pushed e (i + 1) = pushed e i ++ [(e.1 ++ [e.2 + i], e.2 + i + 1)] := by
            unfold pushed
            rw [List.range_succ, List.map_append]
            rfl
          rw [e1, ← List.append_assoc, List.map_append]
          congr 3
          unfold entD riL
          simp
      · obtain ⟨⟨x, rfl⟩, rfl⟩ := hI
        rw [rngD_len, List.length_map, show ((zs.length : Int) - (e.2 : Int)).toNat = zs.length - e.2 by omega]
        refine ⟨_, ?_, rest ++ pushed e (zs.length - e.2), _, _, _, _, _, _, _, rfl, rfl, rfl, ?_, inv5_push inv h4⟩
        · rw [wt_append]
          omega
        · rw [wt_append]
          omega
  · have hl : left = [] := by simpa using hr
    subst hl
    have hdone : ∀ r, Row5 zs.length r → rowOk (pickS zs r) = true ∧ ∃ b, best = some b := fun r hr => by
      rcases inv.cov r hr with ⟨e, he, _⟩ | ⟨q, b, e, _⟩
      · cases he
      · exact ⟨q, b, e⟩
    rcases hout with ⟨hok, _, r, hr, ho⟩ | ⟨hbad, _⟩
    · obtain ⟨_, b, eb⟩ := hdone r hr.1
      subst eb
      have := best_uniq inv.isBest hr
      subst this
      have hix : L2.atI (kindsL.map Sh.D.str) (kix zs b) = some (.str (kindS (pickS zs b))) := atI_nat (by
        rw [List.getElem?_map, (idx_first (kindS_mem (pickS zs b))).1]
        rfl)
      exact ss_one (s1_ret (evr_of (ev_tup (ea_cons (ev_ix (ev_kinds Kd (by rfl)) (ev_ix (ev_var 1 rfl (.inl rfl) rfl) ev_int (.tup (atI_nat (j := 0) rfl))) (.tup hix)) (ea_cons (ev_ix (ev_var 1 rfl (.inl rfl) rfl) ev_int (.tup (atI_nat (j := 2) rfl))) ea_nil)) (Nat.le_of_ble_eq_true rfl)) ⟨ho.symm ▸ rfl, .nil _⟩))
    · rcases hbad with hbad | hbad
      · obtain ⟨r, h1, h2⟩ := bad_pick hbad hn.1 hn.2
        rw [(hdone r h1).1] at h2
        cases h2
      · exact absurd hn hbad
end
end K1
set_option Elab.async false
set_option linter.all false
set_option maxRecDepth 100000
set_option maxHeartbeats 2000000
set_option autoImplicit false
namespace K1
open PySem PySem.Spec PySem.W PyProof.Rows L2 Sh
/-! the law's dice -/
abbrev st_dice : Stmt := topS 20
abbrev st_roll : Stmt := topS 21
abbrev st_rounds : Stmt := topS 22
theorem sc_dice : FnScope ["cell"] ["cell"] (defScope st_dice) := ⟨rfl, rfl, rfl, by decide +kernel, rfl, by decide +kernel, by decide +kernel⟩
theorem sc_roll : FnScope ["dice", "many", "found"] ["dice", "many"] (defScope st_roll) := ⟨rfl, rfl, rfl, by decide +kernel, rfl, by decide +kernel, by decide +kernel⟩
theorem sc_rounds : FnScope ["script", "most", "cells", "cell"] ["script", "most"] (defScope st_rounds) := ⟨rfl, rfl, rfl, by decide +kernel, rfl, by decide +kernel, by decide +kernel⟩
abbrev Dice := Int × Int × Int
def diceA (s : Dice) : AO := .lst [.int s.1, .int s.2.1, .int s.2.2]
def isDice (d : D) (W : OW) : Prop := ∃ q s, d = .ptr q ∧ W = [(q, diceA s)]
def rollC (s : Dice) : Bool := decide (s.2.2 = 2) || (decide (s.2.2 = 1) && decide (0 < s.1))
def rollV (s : Dice) (n : Int) : Int := if rollC s then s.1 % n else ((s.1 * 48271 + s.2.1 * 69621 + 11) % 2147483647 / 7) % n
def rollN (s : Dice) (n : Int) : Dice := if rollC s then (s.1 / n, s.2.1, s.2.2) else ((s.1 * 48271 + s.2.1 * 69621 + 11) % 2147483647, s.2.1 + 1, 0)
theorem rollV_in (s : Dice) {n : Int} (h : 0 < n) : 0 ≤ rollV s n ∧ rollV s n < n := by
  unfold rollV
  split
  · exact ⟨Int.emod_nonneg _ (by omega), Int.emod_lt_of_pos _ h⟩
  · exact ⟨Int.emod_nonneg _ (by omega), Int.emod_lt_of_pos _ h⟩
inductive SDice : LawR
  | mk (c : Int) : SDice [.int c] [] isDice
inductive SRoll : Law
  | mk (q : Addr) (s : Dice) (n : Int) (h0 : 0 < n) (h1 : n ≤ 100000000) : SRoll [.ptr q, .int n] [(q, diceA s)] (.ok (.int (rollV s n))) [(q, diceA (rollN s n))]
section
variable {P : Program} {w : World} {K : PySem.W.Frag} {mg : Str → Option Value} {base : Heap} {T : Tb} {CD : Addr}
theorem ok_dice {f : Addr} {fd : FuncData} {k : Nat} (habs : mg "abs" = none) (hint : mg "int" = none) (Fu : Fun K "_law_dice" "_law_dice" st_dice f fd) : FnOk P w K mg base (L2.CX P w) (k + 1) f fd ["cell"] (spOfR K T SDice) := by
  refine fn_defR Fu sc_dice (fun ds W Pp h => by cases h <;> rfl) fun cl E ds W Pp h => ?_
  cases h with
  | mk c =>
    refine ss_cons (s1_if (et_chain (ev_bin ev_int ev_int (.subI _ _)) (ev_var 0 rfl (.inl rfl) rfl) (.ltI _ _) (fun _ => ev_int) (fun _ => .ltI _ _)) (fun _ => ?_) fun _ => ss_nil ?_)
    · exact ss_one (s1_ret (evr_new (en_lst (ea_cons (ev_abs (by rfl) habs (ev_var 0 rfl (.inl rfl) rfl)) (ea_cons ev_int (ea_cons ev_int ea_nil))) (Nat.le_of_ble_eq_true rfl)) fun q => ⟨_, .refl _, q, (_, _, _), rfl, rfl⟩))
    · exact ss_one (s1_ret (evr_new (en_lst (ea_cons (ev_var 0 rfl (.inl rfl) rfl) (ea_cons (ev_bin ev_int (ev_bin (ev_intI (by rfl) hint (ev_var 0 rfl (.inl rfl) rfl)) ev_int (.modI _ _ (by decide))) (.addI _ _)) (ea_cons (ev_intB (by rfl) hint (ev_cmpR (ev_var 0 rfl (.inl rfl) rfl) (ev_pow ev_int ev_int (by unfold CPow; decide)) (.geI _ _))) ea_nil))) (Nat.le_of_ble_eq_true rfl)) fun q => ⟨_, .refl _, q, (_, _, _), rfl, rfl⟩))
theorem ok_roll {f : Addr} {fd : FuncData} {k : Nat} (hint : mg "int" = none) (Fu : Fun K "_law_roll" "_law_roll" st_roll f fd) : FnOk P w K mg base (L2.CX P w) (k + 1) f fd ["dice", "many"] (spOf K T SRoll) := by
  refine fn_def Fu sc_roll (fun ds W o W' h => by cases h <;> rfl) fun cl E ds W o W' h => ?_
  cases h with
  | mk q s n h0 h1 =>
    obtain ⟨a, b, m⟩ := s
    have dv := fun {p : Pos} {Γ : Ga} {W : OW} (e : Γ[0]? = some (some (.ptr q))) => ev_var (F := ⟨P, w, K, mg, base, ["dice", "many", "found"], defScope st_roll, k, fd.code, E, T, "_law_roll" ++ ".<locals>.", some cl⟩) (pos := p) (W := W) 0 (x := "dice") rfl (.inl rfl) e
    have di := fun {p p2 p3 : Pos} {j : Nat} {i : Int} {x : Sh.D} {xs : List Sh.D} {Γ : Ga} (e : Γ[0]? = some (some (.ptr q))) (e2 : L2.atI xs i = some x) => ev_ix (pos := p3) (d := x) (dv (p := p) (W := [(q, AO.lst xs)]) e) (ev_int (i := i) (j := j) (pos := p2)) (.lst (.own 0 rfl) e2)
    refine ss_cons (s1_if (r := rollC (a, b, m)) (et_w (ew_or (et_cmpR (di rfl rfl) ev_int (.eqI _ _)) fun _ => ew_or1 (et_w (ew_and (et_cmpR (di rfl rfl) ev_int (.eqI _ _)) fun _ => ew_and1 (et_cmpR (di rfl rfl) ev_int (.gtI _ _)))))) (fun hr => ?_) fun hr => ss_nil ?_)
    · refine ss_cons (s1_set 2 rfl (.inl rfl) (evr_of (ev_bin (ev_intI (by rfl) hint (di rfl rfl)) (ev_var 1 rfl (.inl rfl) rfl) (.modI _ _ h0)) ?_))
      refine ss_cons (s1_store (i := 0) (ev_bin (di rfl rfl) (ev_var 1 rfl (.inl rfl) rfl) (.divI _ _ ⟨h0, by omega⟩)) (dv rfl) ev_int rfl (by rfl) ?_)
      refine ss_one (s1_ret (evr_of (ev_var 2 rfl (.inl rfl) rfl) ⟨?_, ?_⟩))
      · unfold rollV
        rw [if_pos hr]
      · unfold rollN
        rw [if_pos hr]
        exact .refl _
    · refine ss_cons (s1_store (i := 0) ev_int (dv rfl) ev_int rfl (by rfl) ?_)
      refine ss_cons (s1_ifF (ET.to (et_cmpR (ev_var 1 rfl (.inl rfl) rfl) ev_int (.gtI _ _)) (decide_eq_false (by omega))) (ss_nil ?_))
      refine ss_cons (s1_store (i := 0) (ev_bin (ev_intI (by rfl) hint (ev_bin (ev_bin (ev_bin (di rfl rfl) ev_int (.mulI _ _ (.inr (by decide)))) (ev_bin (di rfl rfl) ev_int (.mulI _ _ (.inr (by decide)))) (.addI _ _)) ev_int (.addI _ _))) ev_int (.modI _ _ (by decide))) (dv rfl) ev_int rfl (by rfl) ?_)
      refine ss_cons (s1_store (i := 0) (ev_bin (di rfl rfl) ev_int (.addI _ _)) (dv rfl) ev_int rfl (by rfl) ?_)
      refine ss_one (s1_ret (evr_of (ev_bin (ev_intI (by rfl) hint (ev_bin (di rfl rfl) ev_int (.divI _ _ (by decide)))) (ev_var 1 rfl (.inl rfl) rfl) (.modI _ _ h0)) ⟨?_, ?_⟩))
      · unfold rollV
        rw [if_neg (by rw [hr]; exact Bool.false_ne_true)]
      · unfold rollN
        rw [if_neg (by rw [hr]; exact Bool.false_ne_true)]
        exact .refl _
end
end K1
set_option Elab.async false
set_option linter.all false
set_option maxRecDepth 100000
set_option maxHeartbeats 2000000
set_option autoImplicit false
namespace K1
open PySem PySem.Spec PySem.W PyProof.Rows L2 Sh
abbrev st_ldeck : Stmt := topS 24
abbrev st_mixed : Stmt := topS 25
theorem sc_ldeck : FnScope ["found", "suit", "rank"] [] (defScope st_ldeck) := ⟨rfl, rfl, rfl, by decide +kernel, rfl, by decide +kernel, by decide +kernel⟩
theorem sc_mixed : FnScope ["dice", "cards", "many", "left", "found", "k", "place"] ["dice", "cards", "many"] (defScope st_mixed) := ⟨rfl, rfl, rfl, by decide +kernel, rfl, by decide +kernel, by decide +kernel⟩
inductive SRounds (K : PySem.W.Frag) (T : Tb) : LawR
  | mk (q : Addr) (ns : List Int) (W : OW) (hS : Stands K T q (ns.map .int) W) : SRounds K T [.ptr q, .int 1] W (fun d W' => ∃ L p s, d = .ptr L ∧ W' = (L, .lst [.ptr p]) :: (p, diceA s) :: W)
inductive SLDeck : Law
  | ok : SLDeck [] [] (.ok (.lst deckD)) []
/-! mixed -/
section
variable {α : Type}
def mixStep (x0 : α) (t : Dice × List α × List α) : Dice × List α × List α :=
  let p := (rollV t.1 t.2.1.length).toNat
  (rollN t.1 t.2.1.length, t.2.1.take p ++ t.2.1.drop (p + 1), t.2.2 ++ [t.2.1.getD p x0])
def mixAt (x0 : α) (s : Dice) (xs : List α) : Nat → Dice × List α × List α
  | 0 => (s, xs, [])
  | i + 1 => mixStep x0 (mixAt x0 s xs i)
theorem roll_lt (s : Dice) {n : Nat} (h : 0 < n) : (rollV s n).toNat < n ∧ rollV s n = ((rollV s n).toNat : Int) := by
  have := rollV_in s (n := n) (by omega)
  omega
theorem mixAt_ok (x0 : α) (s : Dice) (xs : List α) : ∀ i, i ≤ xs.length → ((mixAt x0 s xs i).2.2 ++ (mixAt x0 s xs i).2.1).Perm xs ∧ (mixAt x0 s xs i).2.2.length = i ∧ (mixAt x0 s xs i).2.1.length = xs.length - i
  | 0, _ => ⟨.refl _, rfl, rfl⟩
  | i + 1, h => by
    obtain ⟨h1, h2, h3⟩ := mixAt_ok x0 s xs i (by omega)
    rw [show mixAt x0 s xs (i + 1) = mixStep x0 (mixAt x0 s xs i) from rfl]
    generalize mixAt x0 s xs i = t at h1 h2 h3 ⊢
    obtain ⟨s', l, f⟩ := t
    simp only at h1 h2 h3
    have hp := (roll_lt s' (n := l.length) (by omega)).1
    unfold mixStep
    simp only
    generalize (rollV s' l.length).toNat = p at hp ⊢
    have hg : l.getD p x0 = l[p] := by
      rw [List.getD_eq_getElem?_getD, List.getElem?_eq_getElem hp]
      rfl
    have hl : l = l.take p ++ (l[p] :: l.drop (p + 1)) := by
      rw [List.getElem_cons_drop, List.take_append_drop]
    refine ⟨?_, by rw [List.length_append, h2]; rfl, ?_⟩
    · rw [hg]
      refine List.Perm.trans ?_ h1
      rw [List.append_assoc]
      refine List.Perm.append_left f ?_
      have : (l.take p ++ (l[p] :: l.drop (p + 1))).Perm l := by rw [← hl]
      refine List.Perm.trans ?_ this
      exact (List.perm_middle (l₁ := l.take p)).symm
    · show (l.take p ++ l.drop (p + 1)).length = xs.length - (i + 1)
      rw [List.length_append, List.length_take, List.length_drop]
      omega
end
def mixM (m : Int) (n : Nat) : Nat := min m.toNat n
inductive SMix : Law
  | mk (q : Addr) (s : Dice) (d : D) (xs : List D) (m : Int) (hd : SeqF d xs) (hz : xs.length ≤ 1000) (h0 : 0 ≤ m) (h1 : m ≤ 100000000) : SMix [.ptr q, d, .int m] [(q, diceA s)] (.ok (.lst (mixAt .non s xs (mixM m xs.length)).2.2)) [(q, diceA (mixAt .non s xs (mixM m xs.length)).1)]
section
variable {P : Program} {w : World} {K : PySem.W.Frag} {mg : Str → Option Value} {base : Heap} {T : Tb} {CD : Addr}
theorem ok_rounds {f : Addr} {fd : FuncData} {k : Nat} (hdice : FdR P w K mg base T "_law_dice" k 1 SDice) (Fu : Fun K "_law_rounds" "_law_rounds" st_rounds f fd) : FnOk P w K mg base (L2.CX P w) (k + 1) f fd ["script", "most"] (spOfR K T (SRounds K T)) := by
  refine fn_defR Fu sc_rounds (fun ds W Pp h => by cases h <;> rfl) fun cl E ds W Pp h => ?_
  cases h with
  | mk q ns W hS =>
    have he : cutD ns none (some 1) = ns.take 1 := cutD_to ns 1
    have fin : ∀ c : Int, SS ⟨P, w, K, mg, base, ["script", "most", "cells", "cell"], defScope st_rounds, k, fd.code, E, T, "_law_rounds" ++ ".<locals>.", some cl⟩ ((defBody st_rounds).drop 2) [some (.ptr q), some (.int 1), some (.lst [.int c]), none] W (AEofR (fun d W' => ∃ L p s, d = .ptr L ∧ W' = (L, .lst [.ptr p]) :: (p, diceA s) :: W)) := fun c => by
      refine ss_one (s1_ret (evr_lcR (own := [("cell", 3)]) sc_rounds.nd (by rfl) (ei_list (ev_var 2 rfl (.inl rfl) rfl) .lst) (fun i acc W' => (i = 0 ∧ acc = [] ∧ W' = W) ∨ (i = 1 ∧ ∃ p s, acc = [.ptr p] ∧ W' = (p, diceA s) :: W)) (.inl ⟨rfl, rfl, rfl⟩) (fun i acc W' h => ⟨.inl rfl, ?_⟩) (fun i d acc W' hd h => ?_) (show 1 < sizeLine by decide) (fun acc W' L h => ?_)))
      · rcases h with ⟨rfl, rfl, _⟩ | ⟨rfl, p, s, rfl, _⟩
        · exact Nat.le_refl _
        · exact Nat.le_refl _
      · rcases h with ⟨rfl, rfl, rfl⟩ | ⟨rfl, _⟩
        · cases hd
          refine ⟨_, _, eg_name (fun X h => h) 3 rfl (.inl (by rfl)), by decide, evr_callR (Wf := []) (Wr := W') hdice (Nat.le_refl _) (by rfl) (ea_cons (ev_var 3 rfl (.inl (by rfl)) rfl) ea_nil) (.refl _) (.mk c) fun d Wf' hd => .inr ⟨rfl, ?_⟩⟩
          obtain ⟨p, s, rfl, rfl⟩ := hd
          exact ⟨p, s, rfl, rfl⟩
        · cases hd
      · rcases h with ⟨h, _⟩ | ⟨_, p, s, rfl, rfl⟩
        · cases h
        · exact ⟨_, .refl _, L, p, s, rfl, rfl⟩
    refine ss_cons (s1_set 2 rfl (.inl rfl) (evr_of (EN.ev (EN.to (en_sliceV (ev_var 0 rfl (.inl rfl) rfl) eo_none (eo_some (ev_var 1 rfl (.inl rfl) rfl)) hS) (by rw [he]))) ?_))
    cases ns with
    | nil =>
      refine ss_cons (s1_ifT (ET.to (et_cmpR (ev_var 2 rfl (.inl rfl) rfl) (EN.ev (en_lst ea_nil (by decide))) (.eqD (Py.intsL []) (Py.intsL []) (shaped_intsL []) (shaped_intsL []) rfl)) (enc_int.list.eq [] [])) (ss_one (s1_set 2 rfl (.inl rfl) (evr_of (EN.ev (en_lst (ea_cons ev_int ea_nil) (by decide))) ?_))))
      exact fin 0
    | cons n ns =>
      refine ss_cons (s1_ifF (ET.to (et_cmpR (ev_var 2 rfl (.inl rfl) rfl) (EN.ev (en_lst ea_nil (by decide))) (.eqD (Py.intsL [n]) (Py.intsL []) (shaped_intsL [n]) (shaped_intsL []) rfl)) (enc_int.list.eq [n] [])) (ss_nil ?_))
      exact fin n
theorem ok_ldeck {f : Addr} {fd : FuncData} {k : Nat} (Fu : Fun K "_law_deck" "_law_deck" st_ldeck f fd) : FnOk P w K mg base (L2.CX P w) (k + 1) f fd [] (spOf K T SLDeck) := by
  refine fn_def Fu sc_ldeck (fun ds W o W' h => by cases h <;> rfl) fun cl E ds W o W' h => ?_
  cases h
  refine ss_cons (s1_set 0 rfl (.inl rfl) (evr_of (EN.ev (en_lst ea_nil (by decide))) ?_))
  refine ss_cons (s1_for (ei_str ev_str) (fun i Γ' W' => (∃ x y, Γ' = [some (.lst (((suitsL.take i).flatMap fun s => ranksL.map fun r => cardS r s).map Sh.D.str)), x, y]) ∧ W' = []) ⟨⟨_, _, rfl⟩, rfl⟩ (fun _ _ _ _ => trivial) (fun i d Γ' W' hd hI => ?_) (fun Γ' W' hI => ?_))
  · obtain ⟨⟨x, y, rfl⟩, rfl⟩ := hI
    rw [List.getElem?_map] at hd
    obtain ⟨c, hc, rfl⟩ : ∃ c, suitsL[i]? = some c ∧ d = .str ⟨#[c]⟩ := by
      cases e : ("CDHS" : Str).cps.toList[i]? with
      | none => rw [e] at hd; cases hd
      | some c => rw [e] at hd; cases hd; exact ⟨c, e, rfl⟩
    refine ⟨_, _, eg_name (fun X h => h.toG) 1 rfl (.inr ⟨rfl, fun X h => h.fn _⟩), ss_one (s1_set 0 rfl (.inl rfl) (evr_of (EN.ev (en_cat (ev_var 0 rfl (.inl rfl) rfl) (EN.ev (en_lcM (own := [("rank", 2)]) (fun d => match d with | .str z => .str (z ++ ⟨#[c]⟩) | d => d) sc_ldeck.nd (by rfl) (ei_str ev_str) trivial (fun d hd => ?_) (by decide))) .lst .lst ?_)) ?_))⟩
    · obtain ⟨r, _, rfl⟩ := List.mem_map.mp hd
      exact turn_map (eg_name (fun X h => h) 2 rfl (.inl (by rfl))) (by decide) (ev_bin (ev_var 2 rfl (.inl (by rfl)) rfl) (ev_var 1 rfl (.inr (.inl (by rfl))) rfl) (.addS _ _ (show 1 + 1 ≤ sizeLine by decide)))
    · have hi : i < 4 := (List.getElem?_eq_some_iff.mp hc).1
      have : ∀ i < 4, (((suitsL.take i).flatMap fun s => ranksL.map fun r => cardS r s).map Sh.D.str).length + 13 ≤ sizeLine := by decide
      exact this i hi
    · refine ⟨⟨some (.str ⟨#[c]⟩), y, ?_⟩, rfl⟩
      rw [List.take_add_one, hc, List.flatMap_append, List.map_append]
      rfl
  · obtain ⟨⟨x, y, rfl⟩, rfl⟩ := hI
    exact ss_one (s1_ret (evr_of (ev_var 0 rfl (.inl rfl) rfl) ⟨rfl, .nil _⟩))
theorem ok_mixed {f : Addr} {fd : FuncData} {k : Nat} (hlst : mg "list" = none) (hrng : mg "range" = none) (hmin : mg "min" = none) (hlen : mg "len" = none) (hroll : Fd P w K mg base T "_law_roll" k 2 SRoll) (Fu : Fun K "_law_mixed" "_law_mixed" st_mixed f fd) : FnOk P w K mg base (L2.CX P w) (k + 1) f fd ["dice", "cards", "many"] (spOf K T SMix) := by
  refine fn_def Fu sc_mixed (fun ds W o W' h => by cases h <;> rfl) fun cl E ds W o W' h => ?_
  cases h with
  | mk q s d xs m hd hz h0 h1 =>
    refine ss_cons (s1_par 3 4 rfl rfl (by decide) rfl rfl (ear_cons (evr_of (EN.ev (en_list (by rfl) hlst (ev_var 1 rfl (.inl rfl) rfl) (hd.q _))) (ear_cons (evr_of (EN.ev (en_lst ea_nil (by decide))) (ear_nil ⟨_, _, rfl, ?_⟩))))) (fun env he => by
      obtain ⟨a1, a2, a3, a4, a5, a6, a7, a8, a9⟩ := env
      cases he
      rfl))
    have hmm : (if ((xs.length : Nat) : Int) < m then ((xs.length : Nat) : Int) else m) = (mixM m xs.length : Nat) := by
      unfold mixM
      split <;> omega
    have hml : mixM m xs.length ≤ xs.length := by unfold mixM; omega
    refine ss_cons (s1_for (ei_range1 (j := (mixM m xs.length : Nat)) (by rfl) hrng (EV.to (ev_min2 (by rfl) hmin (ea_cons (ev_var 2 rfl (.inl rfl) rfl) (ea_cons (ev_len (by rfl) hlen (ev_var 3 rfl (.inl rfl) rfl) (.lst .lst)) ea_nil))) (congrArg Sh.D.int hmm)) (by constructor <;> omega)) (fun i Γ' W' => (∃ x y, Γ' = [some (.ptr q), some d, some (.int m), some (.lst (mixAt .non s xs i).2.1), some (.lst (mixAt .non s xs i).2.2), x, y]) ∧ W' = [(q, diceA (mixAt .non s xs i).1)]) ⟨⟨_, _, rfl⟩, rfl⟩ (fun _ _ _ _ => trivial) (fun i dd Γ' W' hdd hI => ?_) (fun Γ' W' hI => ?_))
    · obtain ⟨⟨x, y, rfl⟩, rfl⟩ := hI
      obtain ⟨hi, rfl⟩ := rngD_get hdd
      have hi : i < xs.length := by omega
      obtain ⟨g1, g2, g3⟩ := mixAt_ok Sh.D.non s xs i (by omega)
      have e1 : mixAt Sh.D.non s xs (i + 1) = mixStep .non (mixAt .non s xs i) := rfl
      rw [e1]
      generalize mixAt Sh.D.non s xs i = t at g1 g2 g3 ⊢
      obtain ⟨s', l, fo⟩ := t
      simp only at g1 g2 g3
      obtain ⟨hp, hpe⟩ := roll_lt s' (n := l.length) (by omega)
      refine ⟨_, _, eg_name (fun X h => h.toG) 5 rfl (.inl rfl), ?_⟩
      refine ss_cons (s1_set 6 rfl (.inl rfl) (evr_of (ev_at (i := 0) (m := diceA s') hroll (Nat.le_refl _) (by rfl) (ea_cons (ev_var 0 rfl (.inl rfl) rfl) (ea_cons (ev_len (by rfl) hlen (ev_var 3 rfl (.inl rfl) rfl) (.lst .lst)) ea_nil)) rfl (.mk q s' l.length (by omega) (by omega))) ?_))
      unfold mixStep
      simp only
      rw [hpe]
      generalize (rollV s' l.length).toNat = p at hp ⊢
      rw [Int.toNat_natCast]
      have hg : L2.atI l (p : Int) = some (l.getD p .non) := atI_nat (by
        rw [List.getD_eq_getElem?_getD, List.getElem?_eq_getElem hp]
        rfl)
      refine ss_one (s1_par 4 3 rfl rfl (by decide) rfl rfl (ear_cons (evr_of (ev_bin (ev_var 4 rfl (.inl rfl) rfl) (EN.ev (en_lst (ea_cons (ev_ix (ev_var 3 rfl (.inl rfl) rfl) (ev_var 6 rfl (.inl rfl) rfl) (.lst .lst hg)) ea_nil) (Nat.le_of_ble_eq_true rfl))) (.addL .lst .lst ?_)) (ear_cons (evr_of (ev_bin (EN.ev (EN.to (en_slice (ev_var 3 rfl (.inl rfl) rfl) eo_none (eo_some (ev_var 6 rfl (.inl rfl) rfl)) .lst) (cutD_to l p))) (EN.ev (EN.to (en_slice (ev_var 3 rfl (.inl rfl) rfl) (eo_some (ev_bin (ev_var 6 rfl (.inl rfl) rfl) ev_int (.addI _ _))) eo_none .lst) (show cutD l (some ((p : Int) + 1)) none = l.drop (p + 1) from cutD_from l (p + 1)))) (.addL .lst .lst ?_)) (ear_nil ⟨_, _, rfl, ⟨some (.int (0 + i)), some (.int p), ?_⟩, ?_⟩))))) (fun env he => by
        obtain ⟨a1, a2, a3, a4, a5, a6, a7, a8, a9⟩ := env
        cases he
        rfl))
      · exact Nat.le_trans (show fo.length + 1 ≤ 2000 by omega) (by decide)
      · rw [List.length_take, List.length_drop]
        exact Nat.le_trans (show _ ≤ 2000 by omega) (by decide)
      · rfl
      · rfl
    · obtain ⟨⟨x, y, rfl⟩, rfl⟩ := hI
      rw [rngD_len, Int.toNat_natCast]
      exact ss_one (s1_ret (evr_of (ev_var 4 rfl (.inl rfl) rfl) ⟨rfl, .refl _⟩))
end
end K1
set_option Elab.async false
set_option linter.all false
set_option maxRecDepth 100000
set_option maxHeartbeats 2000000
set_option autoImplicit false
namespace K1
open PySem PySem.Spec PySem.W PyProof.Rows L2 Sh
/-! the law's kinds are the program's -/
def lrkN (z : Str) : Nat := ranksL.idxOf (z.cps.toList.getD 0 0)
def lranks (zs : List Str) : List Int := srt (zs.map fun z => (lrkN z : Int))
def strL : List (List Int) := (List.range 9).map (fun (l : Nat) => [(l : Int), l + 1, l + 2, l + 3, l + 4]) ++ [[0, 9, 10, 11, 12]]
def lflush (zs : List Str) : Bool := decide (zs.filter (fun z => !decide (suitOf z = suitOf (zs.getD 0 ⟨#[]⟩))) = [])
def lkind5 (st fl : Bool) (last : Int) (cs : List Int) : Str :=
  if st && fl then ("straight flush" : Str) else if cs = [1, 4] then ("four" : Str) else if cs = [2, 3] then ("full house" : Str) else if fl || st then (if fl then ("flush" : Str) else ("straight" : Str)) else
    if last = 3 then ("three" : Str) else if last = 2 then (if cs.length = 3 then ("two pairs" : Str) else ("pair" : Str)) else ("high" : Str)
def parts5 : List (List Int) := [[1, 4], [2, 3], [1, 1, 3], [1, 2, 2], [1, 1, 1, 2], [1, 1, 1, 1, 1]]
theorem lkind5_eq (st fl : Bool) : ∀ cs ∈ parts5, lkind5 st fl (cs.getLastD 0) cs = kind5 st fl (cs.getLastD 0) cs := by
  cases st <;> cases fl <;> decide
theorem parts_of {cs : List Int} (h1 : cs.Pairwise (· ≤ ·)) (h2 : cs.sum = 5) (h3 : ∀ c ∈ cs, 1 ≤ c ∧ c ≤ 4) : cs ∈ parts5 := by
  match cs, h1, h2, h3 with
  | [], _, h2, _ => cases h2
  | [a], _, h2, h3 =>
    have := h3 a (by simp)
    simp only [List.sum_cons, List.sum_nil] at h2
    omega
  | [a, b], h1, h2, h3 =>
    have ha := h3 a (by simp)
    have hb := h3 b (by simp)
    simp only [List.sum_cons, List.sum_nil] at h2
    simp only [List.pairwise_cons, List.mem_cons, List.not_mem_nil, or_false, forall_eq_or_imp, forall_eq] at h1
    have := h1.1
    have : (a = 1 ∧ b = 4) ∨ (a = 2 ∧ b = 3) := by omega
    rcases this with ⟨rfl, rfl⟩ | ⟨rfl, rfl⟩ <;> decide
  | [a, b, c], h1, h2, h3 =>
    have ha := h3 a (by simp)
    have hb := h3 b (by simp)
    have hc := h3 c (by simp)
    simp only [List.sum_cons, List.sum_nil] at h2
    have h12 := List.rel_of_pairwise_cons h1 (a' := b) (by simp)
    have h23 := List.rel_of_pairwise_cons (List.pairwise_cons.mp h1).2 (a' := c) (by simp)
    have : (a = 1 ∧ b = 1 ∧ c = 3) ∨ (a = 1 ∧ b = 2 ∧ c = 2) := by omega
    rcases this with ⟨rfl, rfl, rfl⟩ | ⟨rfl, rfl, rfl⟩ <;> decide
  | [a, b, c, d], h1, h2, h3 =>
    have ha := h3 a (by simp)
    have hb := h3 b (by simp)
    have hc := h3 c (by simp)
    have hd := h3 d (by simp)
    simp only [List.sum_cons, List.sum_nil] at h2
    have h12 := List.rel_of_pairwise_cons h1 (a' := b) (by simp)
    have h1' := (List.pairwise_cons.mp h1).2
    have h23 := List.rel_of_pairwise_cons h1' (a' := c) (by simp)
    have h34 := List.rel_of_pairwise_cons (List.pairwise_cons.mp h1').2 (a' := d) (by simp)
    have : a = 1 ∧ b = 1 ∧ c = 1 ∧ d = 2 := by omega
    obtain ⟨rfl, rfl, rfl, rfl⟩ := this
    decide
  | [a, b, c, d, e], h1, h2, h3 =>
    have ha := h3 a (by simp)
    have hb := h3 b (by simp)
    have hc := h3 c (by simp)
    have hd := h3 d (by simp)
    have he := h3 e (by simp)
    simp only [List.sum_cons, List.sum_nil] at h2
    have : a = 1 ∧ b = 1 ∧ c = 1 ∧ d = 1 ∧ e = 1 := by omega
    obtain ⟨rfl, rfl, rfl, rfl, rfl⟩ := this
    decide
  | a :: b :: c :: d :: e :: f :: r, h1, h2, h3 =>
    have ha := h3 a (by simp)
    have hb := h3 b (by simp)
    have hc := h3 c (by simp)
    have hd := h3 d (by simp)
    have he := h3 e (by simp)
    have hf := h3 f (by simp)
    have hr : 0 ≤ r.sum := by
      have h3' : ∀ c ∈ r, 1 ≤ c := fun c hc => (h3 c (by simp [hc])).1
      clear h1 h2 h3
      induction r with
      | nil => exact Int.le_refl _
      | cons x r ih =>
        rw [List.sum_cons]
        have := h3' x (by simp)
        have := ih fun c hc => h3' c (by simp [hc])
        omega
    simp only [List.sum_cons] at h2
    omega
/-! counts -/
theorem sum_hit {k : Int} : ∀ {ks : List Int}, ks.Nodup → k ∈ ks → (ks.map fun r => if k = r then (1 : Nat) else 0).sum = 1
  | [], _, h => by cases h
  | r :: ks, hn, h => by
    rw [List.map_cons, List.sum_cons]
    have hn' := List.nodup_cons.mp hn
    by_cases e : k = r
    · subst e
      rw [if_pos rfl]
      have : (ks.map fun r => if k = r then (1 : Nat) else 0).sum = 0 := by
        have h2 : ∀ r ∈ ks, k ≠ r := fun r hr e => hn'.1 (e ▸ hr)
        clear hn hn' h
        induction ks with
        | nil => rfl
        | cons x ks ih =>
          rw [List.map_cons, List.sum_cons, if_neg (h2 x (by simp)), ih fun r hr => h2 r (by simp [hr])]
      rw [this]
    · rw [if_neg e, sum_hit hn'.2 ((List.mem_cons.mp h).resolve_left e)]
theorem sum_add {α : Type} (f g : α → Nat) : ∀ ks : List α, (ks.map fun k => f k + g k).sum = (ks.map f).sum + (ks.map g).sum
  | [] => rfl
  | k :: ks => by
    rw [List.map_cons, List.map_cons, List.map_cons, List.sum_cons, List.sum_cons, List.sum_cons, sum_add f g ks]
    omega
theorem sum_count {ks : List Int} (hn : ks.Nodup) : ∀ rs : List Int, (∀ r ∈ rs, r ∈ ks) → (ks.map fun r => rs.count r).sum = rs.length
  | [], _ => by
    clear hn
    induction ks with
    | nil => rfl
    | cons k ks ih =>
      rw [List.map_cons, List.sum_cons]
      have := ih
      simpa using this
  | x :: rs, h => by
    have e : (ks.map fun r => (x :: rs).count r) = ks.map fun r => rs.count r + (if x = r then 1 else 0) := List.map_congr_left fun r _ => by
      rw [List.count_cons]
      simp
    rw [e, sum_add, sum_count hn rs (fun r hr => h r (by simp [hr])), sum_hit hn (h x (by simp)), List.length_cons]
theorem sum_cast : ∀ ns : List Nat, (ns.map fun (n : Nat) => (n : Int)).sum = (ns.sum : Nat)
  | [] => rfl
  | n :: ns => by
    rw [List.map_cons, List.sum_cons, List.sum_cons, sum_cast ns]
    omega
theorem nodup_sub {α : Type} [DecidableEq α] : ∀ {l m : List α}, l.Nodup → (∀ x ∈ l, x ∈ m) → l.length ≤ m.length
  | [], m, _, _ => Nat.zero_le _
  | x :: l, m, hn, h => by
    have hn' := List.nodup_cons.mp hn
    have hx := h x (by simp)
    have := nodup_sub (m := m.erase x) hn'.2 fun y hy => (List.mem_erase_of_ne (fun q : y = x => hn'.1 (q ▸ hy))).mpr (h y (by simp [hy]))
    rw [List.length_erase_of_mem hx] at this
    have : 0 < m.length := List.length_pos_of_mem hx
    rw [List.length_cons]
    omega
theorem perm_srt (l : List Int) : (srt l).Perm l := List.mergeSort_perm l _
theorem srt_sorted (l : List Int) : (srt l).Pairwise (· ≤ ·) := by
  have := List.pairwise_mergeSort (le := fun x y : Int => decide (x ≤ y)) (fun a b c h1 h2 => decide_eq_true (Int.le_trans (of_decide_eq_true h1) (of_decide_eq_true h2))) (fun a b => by
    rcases Int.le_total a b with h | h
    · simp [h]
    · simp [h]) l
  exact this.imp fun h => of_decide_eq_true h
theorem sum_perm {a b : List Int} (h : a.Perm b) : a.sum = b.sum := by
  induction h with
  | nil => rfl
  | cons x _ ih => rw [List.sum_cons, List.sum_cons, ih]
  | swap x y l => rw [List.sum_cons, List.sum_cons, List.sum_cons, List.sum_cons]; omega
  | trans _ _ i1 i2 => exact i1.trans i2
theorem okc_ext {z z' : Str} (h : okc z = true) (h' : okc z' = true) (e1 : lrkN z = lrkN z') (e2 : suitOf z = suitOf z') : z = z' := by
  obtain ⟨a, b, q1, q2, q3⟩ := okc_two h
  obtain ⟨a', b', q1', q2', q3'⟩ := okc_two h'
  unfold lrkN at e1
  unfold suitOf at e2
  rw [q1, q1'] at e1 e2
  have e1 : ranksL.idxOf a = ranksL.idxOf a' := e1
  have e2 : b = b' := e2
  have ea : a = a' := by
    have h1 := (idx_first q2).1
    have h2 := (idx_first q2').1
    rw [e1, h2] at h1
    exact (Option.some.inj h1).symm
  refine PySem.W.str_of_cps ?_
  rw [q1, q1', ea, e2]
theorem count_le4 {zs : List Str} (h : rowOk zs = true) (r : Int) : (zs.map fun z => (lrkN z : Int)).count r ≤ 4 := by
  have hok := rowOk_all h
  have hnd := rowOk_nodup h
  have e : (zs.map fun z => (lrkN z : Int)).count r = ((zs.filter fun z => (lrkN z : Int) == r).map suitOf).length := by
    rw [List.length_map, List.count_eq_countP, List.countP_map, List.countP_eq_length_filter]
    rfl
  rw [e]
  refine nodup_sub (m := suitsL) (List.pairwise_map.mpr ?_) fun x hx => ?_
  · refine List.pairwise_iff_getElem.mpr fun i j hi hj hij q => ?_
    have hi' := List.getElem_mem hi
    have hj' := List.getElem_mem hj
    rw [List.mem_filter] at hi' hj'
    have h1 := eq_of_beq hi'.2
    have h2 := eq_of_beq hj'.2
    have := okc_ext (hok _ hi'.1) (hok _ hj'.1) (by omega) q
    have hf : (zs.filter fun z => (lrkN z : Int) == r).Nodup := hnd.sublist List.filter_sublist
    have := (List.getElem_inj hf).mp this
    omega
  · obtain ⟨z, hz, rfl⟩ := List.mem_map.mp hx
    obtain ⟨a, b, q1, q2, q3⟩ := okc_two (hok z (List.mem_filter.mp hz).1)
    unfold suitOf
    rw [q1]
    exact q3
theorem cnts_parts {zs : List Str} (h : rowOk zs = true) (h5 : zs.length = 5) : cntsOf (lranks zs) ∈ parts5 := by
  have hp := perm_srt ((onceI (lranks zs)).map fun r => (((lranks zs).count r : Nat) : Int))
  have hl : (lranks zs).length = 5 := by
    unfold lranks
    rw [(perm_srt _).length_eq, List.length_map, h5]
  refine parts_of (srt_sorted _) ?_ fun c hc => ?_
  · unfold cntsOf
    rw [sum_perm hp]
    have e : ((onceI (lranks zs)).map fun r => (((lranks zs).count r : Nat) : Int)) = ((onceI (lranks zs)).map fun r => (lranks zs).count r).map fun (n : Nat) => (n : Int) := by
      rw [List.map_map]
      rfl
    have ho : (onceI (lranks zs)).Nodup := keysOf_nodup _ _ .nil
    have hm : ∀ r ∈ lranks zs, r ∈ onceI (lranks zs) := fun r hr => (keysOf_mem _ _ r).mpr (.inr hr)
    rw [e, sum_cast, sum_count ho _ hm, hl]
    rfl
  · have := hp.mem_iff.mp hc
    obtain ⟨r, hr, rfl⟩ := List.mem_map.mp this
    have hr' : r ∈ lranks zs := ((keysOf_mem _ _ r).mp hr).resolve_left (by simp)
    have h1 : 0 < (lranks zs).count r := List.count_pos_iff.mpr hr'
    have h2 : (lranks zs).count r ≤ 4 := by
      unfold lranks
      rw [(perm_srt _).count_eq]
      exact count_le4 h r
    omega
end K1
set_option Elab.async false
set_option linter.all false
set_option maxRecDepth 100000
set_option maxHeartbeats 2000000
set_option autoImplicit false
namespace K1
open PySem PySem.Spec PySem.W PyProof.Rows L2 Sh
theorem ranks_shift (zs : List Str) : ranksOf zs = (lranks zs).map (· + 1) := by
  have e : (zs.map fun z => (rkN z : Int)) = (zs.map fun z => (lrkN z : Int)).map (· + 1) := by
    rw [List.map_map]
    refine List.map_congr_left fun z _ => ?_
    show ((lrkN z + 1 : Nat) : Int) = (lrkN z : Int) + 1
    omega
  unfold ranksOf lranks
  rw [e]
  refine (srt_one ((perm_srt _).map _) ?_).symm
  exact List.pairwise_map.mpr ((srt_sorted _).imp fun h => by omega)
theorem onceI_shift (rs : List Int) : onceI (rs.map (· + 1)) = (onceI rs).map (· + 1) := keysOf_map (fun x : Int => x + 1) (fun a b h => by omega) rs []
theorem count_shift (rs : List Int) (r : Int) : (rs.map (· + 1)).count (r + 1) = rs.count r := by
  rw [List.count_eq_countP, List.countP_map, List.count_eq_countP]
  refine congrArg (fun f => List.countP f rs) (funext fun x => ?_)
  show (x + 1 == r + 1) = (x == r)
  by_cases h : x = r
  · subst h; simp
  · rw [beq_eq_false_iff_ne.mpr h, beq_eq_false_iff_ne.mpr (by omega)]
theorem cnts_shift (rs : List Int) : cntsOf (rs.map (· + 1)) = cntsOf rs := by
  unfold cntsOf
  rw [onceI_shift, List.map_map]
  congr 1
  refine List.map_congr_left fun r _ => ?_
  show (((rs.map (· + 1)).count (r + 1) : Nat) : Int) = (rs.count r : Nat)
  rw [count_shift]
theorem flush_eq {zs : List Str} (h : zs ≠ []) : lflush zs = decide ((onceS zs).length = 1) := by
  unfold lflush
  refine decide_eq_decide.mpr ?_
  have hn : (onceS zs).Nodup := keysOf_nodup _ _ .nil
  have hm : ∀ s, s ∈ onceS zs ↔ s ∈ zs.map suitOf := fun s => by
    unfold onceS
    rw [keysOf_mem]
    simp
  obtain ⟨z0, r, e⟩ : ∃ z0 r, zs = z0 :: r := by
    cases zs with
    | nil => exact absurd rfl h
    | cons z r => exact ⟨z, r, rfl⟩
  have h0 : zs.getD 0 ⟨#[]⟩ = z0 := by rw [e]; rfl
  have hz0 : suitOf z0 ∈ onceS zs := (hm _).mpr (by rw [e]; simp)
  rw [h0, List.filter_eq_nil_iff]
  constructor
  · intro hf
    have hall : ∀ s ∈ onceS zs, s = suitOf z0 := fun s hs => by
      obtain ⟨z, hz, rfl⟩ := List.mem_map.mp ((hm s).mp hs)
      have := hf z hz
      simpa using this
    match onceS zs, hn, hz0, hall with
    | [s], _, _, _ => rfl
    | s :: t :: l, hn, _, hall =>
      exfalso
      have h1 := hall s (by simp)
      have h2 := hall t (by simp)
      exact (List.nodup_cons.mp hn).1 (by rw [h1, h2]; simp)
  · intro h1 z hz
    have hz' : suitOf z ∈ onceS zs := (hm _).mpr (List.mem_map_of_mem hz)
    match onceS zs, h1, hz0, hz' with
    | [s], _, hz0, hz' =>
      rw [List.mem_singleton] at hz0 hz'
      rw [hz', hz0]
      simp
theorem strL_ok : ∀ rs ∈ strL, rs.Nodup ∧ (rs.getD 4 0 - rs.getD 0 0 = 4 ∨ rs = [0, 9, 10, 11, 12]) := by decide
theorem straight_eq {rs : List Int} (h5 : rs.length = 5) (hs : rs.Pairwise (· ≤ ·)) (hb : ∀ r ∈ rs, 0 ≤ r ∧ r ≤ 12) : stB (rs.map (· + 1)) (cntsOf rs) = decide (rs ∈ strL) := by
  have hl : (cntsOf rs).length = (onceI rs).length := by
    unfold cntsOf
    rw [(perm_srt _).length_eq, List.length_map]
  have hiff := keys_lt_iff rs
  have hle := keysOf_len rs []
  have hnd : (cntsOf rs).length = 5 ↔ rs.Nodup := by
    rw [hl]
    show (keysOf [] rs).length = 5 ↔ _
    rw [h5] at hiff hle
    constructor
    · intro q
      exact Classical.byContradiction fun z => by
        have := hiff.mpr z
        omega
    · intro q
      have : ¬ (keysOf [] rs).length < 5 := fun z => hiff.mp z q
      simp only [List.length_nil] at hle
      omega
  match rs, h5 with
  | [a, b, c, d, e], _ =>
    have h12 := List.rel_of_pairwise_cons hs (a' := b) (by simp)
    have hs1 := (List.pairwise_cons.mp hs).2
    have h23 := List.rel_of_pairwise_cons hs1 (a' := c) (by simp)
    have hs2 := (List.pairwise_cons.mp hs1).2
    have h34 := List.rel_of_pairwise_cons hs2 (a' := d) (by simp)
    have hs3 := (List.pairwise_cons.mp hs2).2
    have h45 := List.rel_of_pairwise_cons hs3 (a' := e) (by simp)
    have ha := hb a (by simp)
    have he := hb e (by simp)
    unfold stB
    rw [Bool.eq_iff_iff, Bool.and_eq_true, Bool.or_eq_true, decide_eq_true_iff, decide_eq_true_iff, decide_eq_true_iff, decide_eq_true_iff, hnd]
    show _ ∧ (e + 1 - (a + 1) = 4 ∨ [a + 1, b + 1, c + 1, d + 1, e + 1] = [1, 10, 11, 12, 13]) ↔ _
    constructor
    · rintro ⟨hn, q⟩
      rcases q with q | q
      · simp only [List.nodup_cons, List.mem_cons, List.not_mem_nil, or_false, not_or] at hn
        obtain ⟨⟨n1, _⟩, ⟨n2, _⟩, ⟨n3, _⟩, n4, _⟩ := hn
        unfold strL
        refine List.mem_append_left _ (List.mem_map.mpr ⟨a.toNat, List.mem_range.mpr (by omega), ?_⟩)
        rw [show ((a.toNat : Nat) : Int) = a by omega, show b = a + 1 by omega, show c = a + 2 by omega, show d = a + 3 by omega, show e = a + 4 by omega]
      · injection q with q1 q
        injection q with q2 q
        injection q with q3 q
        injection q with q4 q
        injection q with q5 q
        rw [show a = 0 by omega, show b = 9 by omega, show c = 10 by omega, show d = 11 by omega, show e = 12 by omega]
        decide
    · intro hm
      obtain ⟨hn, q⟩ := strL_ok _ hm
      refine ⟨hn, ?_⟩
      rcases q with q | q
      · left
        have q : e - a = 4 := q
        omega
      · right
        injection q with q1 q
        injection q with q2 q
        injection q with q3 q
        injection q with q4 q
        injection q with q5 q
        subst q1 q2 q3 q4 q5
        rfl
theorem lranks_in {zs : List Str} (h : ∀ z ∈ zs, okc z = true) : ∀ r ∈ lranks zs, 0 ≤ r ∧ r ≤ 12 := fun r hr => by
  have := (perm_srt _).mem_iff.mp hr
  obtain ⟨z, hz, rfl⟩ := List.mem_map.mp this
  obtain ⟨a, b, q1, q2, q3⟩ := okc_two (h z hz)
  have h2 := List.idxOf_lt_length_of_mem q2
  have h3 : ranksL.length = 13 := by decide
  have e : lrkN z = ranksL.idxOf a := by
    unfold lrkN
    rw [q1]
    rfl
  show 0 ≤ ((lrkN z : Nat) : Int) ∧ _
  rw [e]
  omega
def lkindS (zs : List Str) : Str := lkind5 (decide (lranks zs ∈ strL)) (lflush zs) ((cntsOf (lranks zs)).getLastD 0) (cntsOf (lranks zs))
theorem lkindS_eq {zs : List Str} (h : rowOk zs = true) (h5 : zs.length = 5) : lkindS zs = kindS zs := by
  have hl : (lranks zs).length = 5 := by
    unfold lranks
    rw [(perm_srt _).length_eq, List.length_map, h5]
  unfold lkindS
  rw [lkind5_eq _ _ _ (cnts_parts h h5)]
  unfold kindS kind4
  rw [ranks_shift, cnts_shift, straight_eq hl (srt_sorted _) (lranks_in (rowOk_all h)), flush_eq (by intro z; rw [z] at h5; cases h5)]
end K1
set_option Elab.async false
set_option linter.all false
set_option maxRecDepth 100000
set_option maxHeartbeats 2000000
set_option autoImplicit false
namespace K1
open PySem PySem.Spec PySem.W PyProof.Rows L2 Sh
abbrev st_lkind : Stmt := topS 26
theorem sc_lkind : FnScope ["cards", "ranks", "many", "flush", "straight", "card", "rank", "other", "low"] ["cards"] (defScope st_lkind) := ⟨rfl, rfl, rfl, by decide +kernel, rfl, by decide +kernel, by decide +kernel⟩
inductive SLKind : Law
  | ok (d : D) (zs : List Str) (hd : SeqF d (zs.map .str)) (h : rowOk zs = true) (h5 : zs.length = 5) : SLKind [d] [] (.ok (.str (kindS zs))) []
theorem occ_rank {a : Nat} (h : a ∈ ranksL) : ∃ rest, Builtin.Str.occurrences "A23456789TJQK" ⟨#[a]⟩ 0 ("A23456789TJQK" : Str).length 1 = ranksL.idxOf a :: rest := by
  have := rk_occ a h
  match hq : Builtin.Str.occurrences "A23456789TJQK" ⟨#[a]⟩ 0 ("A23456789TJQK" : Str).length 1, this with
  | x :: rest, this =>
    rw [List.head?_cons] at this
    exact ⟨rest, by rw [Option.some.inj this]⟩
theorem py_rowsL {W : OW} (L : List (List Int)) : Py W (.lst (L.map fun ns => .lst (ns.map .int))) (.list (L.map fun ns => .list (ns.map .int))) := .lst (by simp) fun i d p h1 h2 => by
  rw [List.getElem?_map] at h1 h2
  cases e : L[i]? with
  | none => rw [e] at h1; cases h1
  | some z =>
    rw [e] at h1 h2
    cases h1
    cases h2
    exact Py.intsL z
theorem keys_merge (rs : List Int) : (mergeD (rs.map fun r => ((.inl r, .int 1) : Key × D))).map (fun kv => kD kv.1) = (onceI rs).map D.int := by
  unfold mergeD
  rw [List.foldl_map]
  have := fold_keys (fun r : Int => (Sum.inl r : Key)) (fun _ => D.int 1) rs []
  have e3 := keysOf_map (Sum.inl : Int → Key) (fun a b h => Sum.inl.inj h) rs []
  rw [List.map_nil] at e3 this
  rw [e3] at this
  rw [show (fun kv : Key × D => kD kv.1) = kD ∘ (fun kv => kv.1) from rfl, ← List.map_map, this, List.map_map]
  rfl
theorem mergeD_len (ks : List (Key × D)) : (mergeD ks).length ≤ ks.length := by
  unfold mergeD
  have : ∀ (ks acc : List (Key × D)), (ks.foldl (fun a kd => putD a kd.1 kd.2) acc).length ≤ acc.length + ks.length := by
    intro ks
    induction ks with
    | nil => intro acc; exact Nat.le_refl _
    | cons x ks ih =>
      intro acc
      rw [List.foldl_cons, List.length_cons]
      have h1 := ih (putD acc x.1 x.2)
      have h2 := putD_len acc x.1 x.2
      omega
  have := this ks []
  rw [List.length_nil, Nat.zero_add] at this
  exact this
theorem count_filt (rs : List Int) (r : Int) : ((rs.map D.int).filterMap fun x => if decide (Sh.intD x = r) then some (D.int 1) else none).length = rs.count r := by
  induction rs with
  | nil => rfl
  | cons x rs ih =>
    rw [List.map_cons, List.filterMap_cons, List.count_cons]
    by_cases h : x = r
    · subst h
      have : decide (Sh.intD (D.int x) = x) = true := decide_eq_true rfl
      rw [this]
      simpa using ih
    · have : decide (Sh.intD (D.int x) = r) = false := decide_eq_false h
      rw [this, beq_eq_false_iff_ne.mpr h]
      simpa using ih
section
variable {P : Program} {w : World} {K : PySem.W.Frag} {mg : Str → Option Value} {base : Heap} {T : Tb} {CD : Addr}
theorem ok_lkind {f : Addr} {fd : FuncData} {k : Nat} (hlen : mg "len" = none) (hsort : mg "sorted" = none) (hdict : mg "dict" = none) (hlst : mg "list" = none) (hrng : mg "range" = none) (Fu : Fun K "_law_kind" "_law_kind" st_lkind f fd) : FnOk P w K mg base (L2.CX P w) (k + 1) f fd ["cards"] (spOf K T SLKind) := by
  refine fn_def Fu sc_lkind (fun ds W o W' h => by cases h <;> rfl) fun cl E ds W o W' h => ?_
  cases h with
  | ok d zs hd h h5 =>
    have hok := rowOk_all h
    have hcs := fun {p : Pos} {Γ : Ga} {W : OW} (e : Γ[0]? = some (some d)) => ev_var (F := ⟨P, w, K, mg, base, ["cards", "ranks", "many", "flush", "straight", "card", "rank", "other", "low"], defScope st_lkind, k, fd.code, E, T, "_law_kind" ++ ".<locals>.", some cl⟩) (pos := p) (W := W) 0 (x := "cards") rfl (.inr (.inl rfl)) e
    have h5s : zs.length < sizeLine := by rw [h5]; decide
    refine ss_cons (s1_set 1 rfl (.inr rfl) (evr_of (EN.ev (en_sortI (ns := zs.map fun z => (lrkN z : Int)) (ms := lranks zs) (by rfl) hsort (EN.ev (EN.to (en_lcM (own := [("card", 5)]) (fun x => Sh.D.int (lrkN (strD x) : Nat)) sc_lkind.nd (by rfl) (ei_seq (hcs rfl) hd) trivial (fun x hx => ?_) ?_) ?_)) .lst fun ms' => srt_one)) ?_))
    · obtain ⟨z, hzm, rfl⟩ := List.mem_map.mp hx
      obtain ⟨a, b, e, h1, h2⟩ := okc_two (hok z hzm)
      obtain ⟨rest, hocc⟩ := occ_rank h1
      have el : lrkN z = ranksL.idxOf a := by
        unfold lrkN
        rw [e]
        rfl
      refine turn_map (eg_name (fun X h => h) 5 rfl (.inl (by rfl))) (by decide) (EV.to (ev_sindex ev_str (ev_ix (ev_var 5 rfl (.inl (by rfl)) rfl) ev_int (.str (Nat.le_trans (Nat.le_of_eq (okc_len (hok z hzm))) (by decide)) (c := a) (by rw [e]; rfl))) hocc) ?_)
      show Sh.D.int (ranksL.idxOf a : Nat) = Sh.D.int (lrkN z : Nat)
      rw [el]
    · rw [List.length_map]
      exact h5s
    · rw [map_strs (fun z => Sh.D.int (lrkN z : Nat)), List.map_map]
      rfl
    have hrl : (lranks zs).length = 5 := by
      unfold lranks
      rw [(perm_srt _).length_eq, List.length_map, h5]
    have hkd : kindS zs = lkind5 (decide (lranks zs ∈ strL)) (lflush zs) ((cntsOf (lranks zs)).getLastD 0) (cntsOf (lranks zs)) := (lkindS_eq h h5).symm
    have hpt := cnts_parts h h5
    generalize lranks zs = rs at hrl hkd hpt ⊢
    have hrs : rs.length < sizeLine := by rw [hrl]; decide
    refine ss_cons (s1_set 2 rfl (.inl rfl) (evr_of (EN.ev (en_sortI (ns := (onceI rs).map fun r => ((rs.count r : Nat) : Int)) (ms := cntsOf rs) (by rfl) hsort (EN.ev (EN.to (en_lcMB (own := [("rank", 6)]) (fun x => Sh.D.int (rs.count (Sh.intD x) : Nat)) sc_lkind.nd (by rfl)
      (ei_keysN (end_dictP (ks := rs.map fun r => ((.inl r, .int 1) : Key × Sh.D)) (by rfl) hdict (EN.ev (EN.to (en_lcM (own := [("rank", 6)]) (fun x => Sh.D.tup [x, .int 1]) sc_lkind.nd (by rfl) (ei_list (ev_var 1 rfl (.inr (.inl rfl)) rfl) .lst) .lst (fun x hx => ?_) ?_) ?_)) .lst)) trivial (fun x hx => ?_) ?_) ?_)) .lst fun ms' => srt_one)) ?_))
    · obtain ⟨i, hi, rfl⟩ := List.mem_map.mp hx
      exact turn_map (eg_name (fun X h => h) 6 rfl (.inl (by rfl))) (by decide) (ev_tup (ea_cons (ev_var 6 rfl (.inl (by rfl)) rfl) (ea_cons ev_int ea_nil)) (Nat.le_of_ble_eq_true rfl))
    · rw [List.length_map]
      exact hrs
    · rw [List.map_map, List.map_map]
      rfl
    · rw [keys_merge] at hx
      obtain ⟨r, hr, rfl⟩ := List.mem_map.mp hx
      refine turnS_map (eg_cell 6 rfl (by rfl) (by rfl)) (by decide) (EV.to (ev_len (by rfl) hlen (EN.ev (en_lcF (own := [("other", 7)]) (fun x => if decide (Sh.intD x = r) then some (Sh.D.int 1) else none) sc_lkind.nd (by rfl) (ei_list (ev_var 1 rfl (.inr (.inl (by rfl))) rfl) .lst) .lst (fun y hy => ?_) ?_)) (.lst .lst)) ?_)
      · obtain ⟨i, hi, rfl⟩ := List.mem_map.mp hy
        exact turn_if (eg_name (fun X h => h) 7 rfl (.inl (by rfl))) (by decide) (et_cmpR (ev_var 7 rfl (.inl (by rfl)) rfl) (ev_var 6 rfl (.inr (.inl (by rfl))) rfl) (.eqI _ _)) fun _ => ev_int
      · rw [List.length_map]
        exact hrs
      · rw [count_filt]
        rfl
    · rw [List.length_map]
      refine Nat.lt_of_le_of_lt (mergeD_len _) ?_
      rw [List.length_map]
      exact hrs
    · rw [keys_merge, map_ints (fun i => Sh.D.int (rs.count i : Nat)), List.map_map]
      rfl
    obtain ⟨z0, zr, ez⟩ : ∃ z0 zr, zs = z0 :: zr := by
      cases zs with
      | nil => cases h5
      | cons z r => exact ⟨z, r, rfl⟩
    have hz0 : z0 ∈ zs := by rw [ez]; simp
    have hg0 : L2.atI (zs.map Sh.D.str) 0 = some (.str z0) := atI_nat (j := 0) (by rw [ez]; rfl)
    have hs0 : zs.getD 0 ⟨#[]⟩ = z0 := by rw [ez]; rfl
    have hsu : ∀ z ∈ zs, L2.atI z.cps.toList 1 = some (suitOf z) ∧ z.length ≤ sizeLine := fun z hz => by
      obtain ⟨a, b, e, h1, h2⟩ := okc_two (hok z hz)
      refine ⟨?_, Nat.le_trans (Nat.le_of_eq (okc_len (hok z hz))) (by decide)⟩
      unfold suitOf
      rw [e]
      rfl
    have hpf : ∀ z ∈ zs.filter (fun z => !decide (suitOf z = suitOf z0)), PyData.strOk z = true := fun z hz => okc_strOk (hok z (List.mem_filter.mp hz).1)
    refine ss_cons (s1_set 3 rfl (.inl rfl) (evr_of (EV.to (d1 := .bl (lflush zs)) (ev_cmpR (EN.ev (EN.to (en_lcF (own := [("card", 5)]) (fun x => if !decide (suitOf (strD x) = suitOf z0) then some x else none) sc_lkind.nd (by rfl) (ei_seq (hcs rfl) hd) trivial (fun x hx => ?_) ?_) ?_)) (EN.ev (en_lst ea_nil (by decide))) (.eqD (Py.strsL _) (Py.strsL []) (shaped_strsL hpf) (shaped_strsL (by intro z hz; cases hz)) (enc_str.list.eq _ _))) ?_) ?_))
    · obtain ⟨z, hzm, rfl⟩ := List.mem_map.mp hx
      obtain ⟨g1, g2⟩ := hsu z hzm
      obtain ⟨g3, g4⟩ := hsu z0 hz0
      refine turn_if (eg_name (fun X h => h) 5 rfl (.inl (by rfl))) (by decide) (ET.to (et_cmpR (ev_ix (ev_var 5 rfl (.inl (by rfl)) rfl) ev_int (.str g2 g1)) (ev_ix (ev_ix (ev_var 0 rfl (.inr (.inl (by rfl))) rfl) ev_int (hd.ix hg0)) ev_int (.str g4 g3)) (.neS _ _)) ?_) fun _ => ev_var 5 rfl (.inl (by rfl)) rfl
      congr 1
      exact decide_eq_decide.mpr ⟨fun q => by
        injection q with q
        have q2 : suitOf z = suitOf z0 := by have := congrArg Array.toList q; simpa using this
        exact q2, fun q => by show _ = _; rw [show strD (Sh.D.str z) = z from rfl] at q; rw [q]⟩
    · rw [List.length_map]
      exact h5s
    · exact filt_strs (fun z => !decide (suitOf z = suitOf z0)) zs
    · unfold lflush
      rw [hs0]
    generalize lflush zs = fl at hkd ⊢
    refine ss_cons (s1_set 4 rfl (.inl rfl) (evr_of (EV.to (d1 := .bl (decide (rs ∈ strL))) (ev_cmpR (ev_var 1 rfl (.inr (.inl rfl)) rfl) (EV.to (d1 := .lst (strL.map fun ns => .lst (ns.map .int))) (ev_bin (EN.ev (en_lcM (own := [("low", 8)]) (fun x => Sh.D.lst (rngD (Sh.intD x) 5)) sc_lkind.nd (by rfl) (ei_range1 (by rfl) hrng ev_int (by decide)) trivial (fun x hx => ?_) ?_)) (EN.ev (en_lst (ea_cons (EN.ev (en_lst (ea_cons ev_int (ea_cons ev_int (ea_cons ev_int (ea_cons ev_int (ea_cons ev_int ea_nil))))) (by decide))) ea_nil) (by decide))) (.addL .lst .lst ?_)) ?_) (.inL (Py.intsL rs) (py_rowsL strL) (shaped_intsL rs) (enc_int.list.list.shaped (by decide) fun _ _ _ _ => trivial) (enc_int.list.any strL rs))) (by exact congrArg Sh.D.bl (decide_eq_decide.mpr Iff.rfl))) ?_))
    · obtain ⟨i, hi, rfl⟩ := List.mem_map.mp hx
      have hi : i < 9 := List.mem_range.mp hi
      refine turn_map (eg_name (fun X h => h) 8 rfl (.inl (by rfl))) (by decide) (EV.to (EN.ev (en_listRg2 (by rfl) hlst (by rfl) hrng (ev_var 8 rfl (.inl (by rfl)) rfl) (ev_bin (ev_var 8 rfl (.inl (by rfl)) rfl) ev_int (.addI _ _)) (by unfold RgOk; omega))) ?_)
      show Sh.D.lst _ = Sh.D.lst _
      rw [show (0 + (i : Int) + 5 - (0 + (i : Int))).toNat = 5 by omega]
      rfl
    · show 9 < sizeLine
      decide
    · show 9 + 1 ≤ sizeLine
      decide
    · rfl
    generalize decide (rs ∈ strL) = st at hkd ⊢
    rw [hkd]
    generalize cntsOf rs = cs at hpt ⊢
    have hne : cs ≠ [] := by
      intro z
      rw [z] at hpt
      revert hpt
      decide
    have hcl : cs.length ≤ 5 := (show ∀ cs ∈ parts5, cs.length ≤ 5 by decide) cs hpt
    have hla : L2.atI (cs.map Sh.D.int) ((cs.length : Int) - 1) = some (.int (cs.getLastD 0)) := by
      have h0 : 0 < cs.length := List.length_pos_iff.mpr hne
      rw [show (cs.length : Int) - 1 = ((cs.length - 1 : Nat) : Int) by omega]
      refine atI_nat ?_
      rw [List.getElem?_map, List.getLastD_eq_getLast?, List.getLast?_eq_getElem?]
      rw [List.getElem?_eq_getElem (by omega)]
      rfl
    have hcv := fun {p : Pos} {Γ : Ga} {W : OW} (e : Γ[2]? = some (some (Sh.D.lst (cs.map Sh.D.int)))) => ev_var (F := ⟨P, w, K, mg, base, ["cards", "ranks", "many", "flush", "straight", "card", "rank", "other", "low"], defScope st_lkind, k, fd.code, E, T, "_law_kind" ++ ".<locals>.", some cl⟩) (pos := p) (W := W) 2 (x := "many") rfl (.inl rfl) e
    refine ss_cons (s1_if (r := st && fl) (et_w (ew_and (et_val (ev_var 4 rfl (.inl rfl) rfl)) fun _ => ew_and1 (et_val (ev_var 3 rfl (.inl rfl) rfl)))) (fun hr => ss_one (s1_ret (evr_of ev_str ⟨?_, .nil _⟩))) fun h1 => ss_nil ?_)
    · unfold lkind5; rw [if_pos hr]
    have h1 : ¬ (st && fl) = true := by rw [h1]; exact Bool.false_ne_true
    refine ss_cons (s1_if (r := decide (cs = [1, 4])) (et_cmpR (hcv rfl) (EN.ev (en_lst (ea_cons ev_int (ea_cons ev_int ea_nil)) (by decide))) (.eqD (Py.intsL cs) (Py.intsL [1, 4]) (shaped_intsL cs) (shaped_intsL _) (enc_int.list.eq cs [1, 4]))) (fun hr => ss_one (s1_ret (evr_of ev_str ⟨?_, .nil _⟩))) fun h2 => ss_nil ?_)
    · unfold lkind5; rw [if_neg h1, if_pos (of_decide_eq_true hr)]
    have h2 := of_decide_eq_false h2
    refine ss_cons (s1_if (r := decide (cs = [2, 3])) (et_cmpR (hcv rfl) (EN.ev (en_lst (ea_cons ev_int (ea_cons ev_int ea_nil)) (by decide))) (.eqD (Py.intsL cs) (Py.intsL [2, 3]) (shaped_intsL cs) (shaped_intsL _) (enc_int.list.eq cs [2, 3]))) (fun hr => ss_one (s1_ret (evr_of ev_str ⟨?_, .nil _⟩))) fun h3 => ss_nil ?_)
    · unfold lkind5; rw [if_neg h1, if_neg h2, if_pos (of_decide_eq_true hr)]
    have h3 := of_decide_eq_false h3
    refine ss_cons (s1_if (r := fl || st) (et_w (ew_or (et_val (ev_var 3 rfl (.inl rfl) rfl)) fun _ => ew_or1 (et_val (ev_var 4 rfl (.inl rfl) rfl)))) (fun hr => ss_one (s1_ret (evr_of (ev_if (r := fl) (o := .ok (.str (if fl then "flush" else "straight"))) (et_val (ev_var 3 rfl (.inl rfl) rfl)) (fun h => EV.to ev_str (by rw [if_pos h])) fun h => EV.to ev_str (by rw [if_neg (by rw [h]; exact Bool.false_ne_true)])) ⟨?_, .nil _⟩))) fun h4 => ss_nil ?_)
    · unfold lkind5; rw [if_neg h1, if_neg h2, if_neg h3, if_pos hr]
    have h4 : ¬ (fl || st) = true := by rw [h4]; exact Bool.false_ne_true
    have hl : cs.getLastD 0 = 3 ∨ cs.getLastD 0 = 2 ∨ cs.getLastD 0 = 1 := (show ∀ cs ∈ parts5, cs ≠ [1, 4] → cs ≠ [2, 3] → (cs.getLastD 0 = 3 ∨ cs.getLastD 0 = 2 ∨ cs.getLastD 0 = 1) by decide) cs hpt h2 h3
    refine ss_one (s1_ret (evr_of (ev_dgetN (d := .str (lkind5 st fl (cs.getLastD 0) cs)) (end_disp (es := [(_, _), (_, _), (_, _)]) (ks := [(.inl 3, .str "three"), (.inl 2, .str (if cs.length = 3 then "two pairs" else "pair")), (.inl 1, .str "high")]) rfl rfl (fun q => eps_cons ev_int ev_str (eps_cons ev_int (ev_if (r := decide (cs.length = 3)) (ET.to (et_cmpR (ev_len (by rfl) hlen (hcv rfl) (.lst .lst)) ev_int (.eqI _ _)) ?_) (fun h => EV.to ev_str (by rw [if_pos (of_decide_eq_true h)])) fun h => EV.to ev_str (by rw [if_neg (of_decide_eq_false h)])) (eps_cons ev_int ev_str eps_nil))) (by intro h; cases h) (Nat.le_of_ble_eq_true rfl) (Nat.le_of_ble_eq_true rfl)) (q := .inl (cs.getLastD 0)) (fun p => ev_ix (hcv rfl) (ev_bin (ev_len (by rfl) hlen (hcv rfl) (.lst .lst)) ev_int (.subI _ _)) (.lst .lst (by rw [List.length_map]; exact hla))) ?_) ⟨rfl, .nil _⟩))
    · rw [List.length_map]
      exact decide_eq_decide.mpr ⟨fun q => by exact_mod_cast q, fun q => by exact_mod_cast q⟩
    · unfold lkind5
      rw [if_neg h1, if_neg h2, if_neg h3, if_neg h4]
      rcases hl with e | e | e <;> rw [e] <;> rfl
end
end K1
set_option Elab.async false
set_option linter.all false
set_option maxRecDepth 100000
set_option maxHeartbeats 2000000
set_option autoImplicit false
namespace K1
open PySem PySem.Spec PySem.W PyProof.Rows L2 Sh
abbrev st_fives : Stmt := topS 27
theorem sc_fives : FnScope ["cards", "found", "place", "row"] ["cards"] (defScope st_fives) := ⟨rfl, rfl, rfl, by decide +kernel, rfl, by decide +kernel, by decide +kernel⟩
def fivesAt : Nat → List (List Nat)
  | 0 => [[]]
  | k + 1 => fivesAt k ++ ((fivesAt k).filter fun r => decide (r.length < 5)).map fun r => r ++ [k]
def fives (n : Nat) : List (List Nat) := (fivesAt n).filter fun r => decide (r.length = 5)
theorem fivesAt_mem : ∀ (n : Nat) (r : List Nat), r ∈ fivesAt n ↔ r.length ≤ 5 ∧ r.Pairwise (· < ·) ∧ ∀ x ∈ r, x < n
  | 0, r => by
    unfold fivesAt
    rw [List.mem_singleton]
    constructor
    · rintro rfl
      exact ⟨by decide, .nil, fun x hx => by cases hx⟩
    · rintro ⟨_, _, h⟩
      cases r with
      | nil => rfl
      | cons x r => exact absurd (h x (by simp)) (by omega)
  | n + 1, r => by
    unfold fivesAt
    rw [List.mem_append, fivesAt_mem n r, List.mem_map]
    constructor
    · rintro (⟨h1, h2, h3⟩ | ⟨t, ht, rfl⟩)
      · exact ⟨h1, h2, fun x hx => Nat.lt_succ_of_lt (h3 x hx)⟩
      · rw [List.mem_filter] at ht
        obtain ⟨h1, h2, h3⟩ := (fivesAt_mem n t).mp ht.1
        have h4 := of_decide_eq_true ht.2
        refine ⟨by rw [List.length_append, List.length_singleton]; exact h4, List.pairwise_append.mpr ⟨h2, List.pairwise_singleton _ _, fun a ha b hb => ?_⟩, fun x hx => ?_⟩
        · rw [List.mem_singleton] at hb
          rw [hb]
          exact h3 a ha
        · rcases List.mem_append.mp hx with hx | hx
          · exact Nat.lt_succ_of_lt (h3 x hx)
          · rw [List.mem_singleton] at hx
            rw [hx]
            exact Nat.lt_succ_self n
    · rintro ⟨h1, h2, h3⟩
      by_cases hn : n ∈ r
      · right
        obtain ⟨a, b, rfl⟩ := List.append_of_mem hn
        have hb : b = [] := by
          cases b with
          | nil => rfl
          | cons y b =>
            have h4 := (List.pairwise_append.mp h2).2.1
            have h5 := List.rel_of_pairwise_cons h4 (a' := y) (by simp)
            have h6 := h3 y (by simp)
            omega
        subst hb
        refine ⟨a, List.mem_filter.mpr ⟨(fivesAt_mem n a).mpr ⟨?_, (List.pairwise_append.mp h2).1, fun x hx => ?_⟩, decide_eq_true ?_⟩, rfl⟩
        · rw [List.length_append] at h1
          omega
        · exact (List.pairwise_append.mp h2).2.2 x hx n (by simp)
        · rw [List.length_append, List.length_singleton] at h1
          omega
      · left
        exact ⟨h1, h2, fun x hx => by
          have h4 := h3 x hx
          have : x ≠ n := fun q => hn (q ▸ hx)
          omega⟩
theorem fives_mem (n : Nat) (r : List Nat) : r ∈ fives n ↔ Row5 n r := by
  unfold fives Row5
  rw [List.mem_filter, fivesAt_mem, decide_eq_true_iff]
  constructor
  · rintro ⟨⟨_, h2, h3⟩, h1⟩
    exact ⟨h1, h2, h3⟩
  · rintro ⟨h1, h2, h3⟩
    exact ⟨⟨by omega, h2, h3⟩, h1⟩
theorem fivesAt_len : ∀ n, (fivesAt n).length ≤ 2 ^ n
  | 0 => Nat.le_refl _
  | n + 1 => by
    have := fivesAt_len n
    have h2 := List.length_filter_le (fun r : List Nat => decide (r.length < 5)) (fivesAt n)
    unfold fivesAt
    rw [List.length_append, List.length_map, Nat.pow_succ]
    omega
def rowD (r : List Nat) : D := .tup ((riL r).map .int)
inductive SFives : Law
  | ok (d : D) (ds : List D) (hd : SeqF d ds) (h : ds.length ≤ 7) : SFives [d] [] (.ok (.lst ((fives ds.length).map rowD))) []
def tupL : D → List D
  | .tup l => l
  | _ => []
theorem row_len (r : List Nat) : ((riL r).map D.int).length = r.length := by
  unfold riL
  rw [List.length_map, List.length_map]
theorem filt_rows (L : List (List Nat)) (k : Nat) : ((L.map rowD).filterMap fun x => if decide ((tupL x).length < 5) then some (D.tup (tupL x ++ [.int (k : Int)])) else none) = ((L.filter fun r => decide (r.length < 5)).map fun r => r ++ [k]).map rowD := by
  induction L with
  | nil => rfl
  | cons r L ih =>
    rw [List.map_cons, List.filterMap_cons, List.filter_cons]
    have e : (tupL (rowD r)).length = r.length := row_len r
    rw [e]
    by_cases h : r.length < 5
    · rw [decide_eq_true h, if_pos rfl, if_pos rfl, List.map_cons, List.map_cons]
      simp only
      rw [ih]
      congr 1
      unfold rowD riL
      simp [tupL]
    · rw [decide_eq_false h, if_neg Bool.false_ne_true, if_neg Bool.false_ne_true]
      exact ih
theorem filt_rows5 (L : List (List Nat)) : ((L.map rowD).filterMap fun x => if decide ((tupL x).length = 5) then some x else none) = (L.filter fun r => decide (r.length = 5)).map rowD := by
  induction L with
  | nil => rfl
  | cons r L ih =>
    rw [List.map_cons, List.filterMap_cons, List.filter_cons]
    have e : (tupL (rowD r)).length = r.length := row_len r
    rw [e]
    by_cases h : r.length = 5
    · rw [decide_eq_true h, if_pos rfl, if_pos rfl, List.map_cons]
      simp only
      rw [ih]
    · rw [decide_eq_false h, if_neg Bool.false_ne_true, if_neg Bool.false_ne_true]
      exact ih
section
variable {P : Program} {w : World} {K : PySem.W.Frag} {mg : Str → Option Value} {base : Heap} {T : Tb} {CD : Addr}
theorem ok_fives {f : Addr} {fd : FuncData} {k : Nat} (hlen : mg "len" = none) (hrng : mg "range" = none) (Fu : Fun K "_law_fives" "_law_fives" st_fives f fd) : FnOk P w K mg base (L2.CX P w) (k + 1) f fd ["cards"] (spOf K T SFives) := by
  refine fn_def Fu sc_fives (fun ds W o W' h => by cases h <;> rfl) fun cl E ds W o W' h => ?_
  cases h with
  | ok d ds hd hn =>
    have hfl : ∀ i, i ≤ 7 → (fivesAt i).length ≤ 128 := fun i hi => Nat.le_trans (fivesAt_len i) (Nat.pow_le_pow_right (by decide) hi)
    refine ss_cons (s1_set 1 rfl (.inl rfl) (evr_of (EN.ev (en_lst (ds := [rowD []]) (ea_cons (ev_tup ea_nil (by decide)) ea_nil) (by decide))) ?_))
    refine ss_cons (s1_for (ei_range1 (by rfl) hrng (ev_len (by rfl) hlen (ev_var 0 rfl (.inl rfl) rfl) (hd.len _)) (by constructor <;> omega)) (fun i Γ' W' => (∃ x y, Γ' = [some d, some (.lst ((fivesAt i).map rowD)), x, y]) ∧ W' = []) ⟨⟨_, _, rfl⟩, rfl⟩ (fun _ _ _ _ => trivial) (fun i dd Γ' W' hdd hI => ?_) (fun Γ' W' hI => ?_))
    · obtain ⟨⟨x, y, rfl⟩, rfl⟩ := hI
      obtain ⟨hi, rfl⟩ := rngD_get hdd
      rw [Int.toNat_natCast] at hi
      have hz := hfl i (by omega)
      refine ⟨_, _, eg_name (fun X h => h.toG) 2 rfl (.inr ⟨rfl, fun X h => h.fn _⟩), ss_one (s1_set 1 rfl (.inl rfl) (evr_of (EN.ev (en_cat (ev_var 1 rfl (.inl rfl) rfl) (EN.ev (EN.to (en_lcF (own := [("row", 3)]) (fun x => if decide ((tupL x).length < 5) then some (Sh.D.tup (tupL x ++ [.int (i : Int)])) else none) sc_fives.nd (by rfl) (ei_list (ev_var 1 rfl (.inl rfl) rfl) .lst) .lst (fun x hx => ?_) ?_) (filt_rows _ i))) .lst .lst ?_)) ?_))⟩
      · obtain ⟨r, hr, rfl⟩ := List.mem_map.mp hx
        have hr5 := ((fivesAt_mem i r).mp hr).1
        refine turn_if (eg_name (fun X h => h) 3 rfl (.inl (by rfl))) (by decide) (ET.to (et_cmpR (ev_len (by rfl) hlen (ev_var 3 rfl (.inl (by rfl)) rfl) (.tup _)) ev_int (.ltI _ _)) (decide_eq_decide.mpr ?_)) fun _ => EV.to (ev_bin (ev_var 3 rfl (.inl (by rfl)) rfl) (ev_tup (ea_cons (ev_var 2 rfl (.inr (.inl (by rfl))) rfl) ea_nil) (Nat.le_of_ble_eq_true rfl)) (.addT _ _ ?_)) ?_
        · show _ ↔ ((riL r).map Sh.D.int).length < 5
          exact ⟨fun q => by exact_mod_cast q, fun q => by exact_mod_cast q⟩
        · rw [row_len]
          exact Nat.le_trans (show r.length + 1 ≤ 10 by omega) (by decide)
        · rw [Int.zero_add]
          rfl
      · rw [List.length_map]
        exact Nat.lt_of_le_of_lt hz (by decide)
      · have h2 := List.length_filter_le (fun r : List Nat => decide (r.length < 5)) (fivesAt i)
        rw [List.length_map, List.length_map, List.length_map]
        exact Nat.le_trans (show _ ≤ 1000 by omega) (by decide)
      · refine ⟨⟨some (.int (0 + (i : Int))), y, ?_⟩, rfl⟩
        rw [← List.map_append]
        rfl
    · obtain ⟨⟨x, y, rfl⟩, rfl⟩ := hI
      rw [rngD_len, Int.toNat_natCast]
      have hz := hfl ds.length hn
      refine ss_one (s1_ret (evr_of (EN.ev (EN.to (en_lcF (own := [("row", 3)]) (fun x => if decide ((tupL x).length = 5) then some x else none) sc_fives.nd (by rfl) (ei_list (ev_var 1 rfl (.inl rfl) rfl) .lst) .lst (fun x hx => ?_) ?_) (filt_rows5 _))) ⟨rfl, .nil _⟩))
      · obtain ⟨r, hr, rfl⟩ := List.mem_map.mp hx
        refine turn_if (eg_name (fun X h => h) 3 rfl (.inl (by rfl))) (by decide) (ET.to (et_cmpR (ev_len (by rfl) hlen (ev_var 3 rfl (.inl (by rfl)) rfl) (.tup _)) ev_int (.eqI _ _)) (decide_eq_decide.mpr ?_)) fun _ => ev_var 3 rfl (.inl (by rfl)) rfl
        show _ ↔ ((riL r).map Sh.D.int).length = 5
        exact ⟨fun q => by exact_mod_cast q, fun q => by exact_mod_cast q⟩
      · rw [List.length_map]
        exact Nat.lt_of_le_of_lt hz (by decide)
end
end K1
set_option Elab.async false
set_option linter.all false
set_option maxRecDepth 100000
set_option maxHeartbeats 2000000
set_option autoImplicit false
namespace K1
open PySem PySem.Spec PySem.W PyProof.Rows L2 Sh
/-! plain parts of the law's body -/
/-! mixed rows of cards -/
def mixS (s : Dice) (xs : List Str) (i : Nat) : Dice × List Str × List Str := mixAt ⟨#[]⟩ s xs i
theorem mixAt_str (s : Dice) (xs : List Str) : ∀ i, i ≤ xs.length → mixAt D.non s (xs.map .str) i = ((mixS s xs i).1, (mixS s xs i).2.1.map .str, (mixS s xs i).2.2.map .str)
  | 0, _ => rfl
  | i + 1, h => by
    have ih := mixAt_str s xs i (by omega)
    obtain ⟨_, _, h3⟩ := mixAt_ok (⟨#[]⟩ : Str) s xs i (by omega)
    show mixStep D.non (mixAt D.non s (xs.map .str) i) = ((mixStep ⟨#[]⟩ (mixS s xs i)).1, (mixStep ⟨#[]⟩ (mixS s xs i)).2.1.map .str, (mixStep ⟨#[]⟩ (mixS s xs i)).2.2.map .str)
    rw [ih]
    have h3 : (mixS s xs i).2.1.length = xs.length - i := h3
    generalize mixS s xs i = t at h3 ⊢
    obtain ⟨s', l, f⟩ := t
    have h3 : l.length = xs.length - i := h3
    have hp := (roll_lt s' (n := l.length) (by omega)).1
    unfold mixStep
    simp only [List.length_map]
    generalize (rollV s' l.length).toNat = p at hp ⊢
    rw [List.map_append, List.map_append, List.map_take, List.map_drop]
    congr 3
    rw [List.getD_eq_getElem?_getD, List.getD_eq_getElem?_getD, List.getElem?_map, List.getElem?_eq_getElem hp]
    rfl
theorem mixS_ok (s : Dice) {xs : List Str} (h : rowOk xs = true) {i : Nat} (hi : i ≤ xs.length) : rowOk (mixS s xs i).2.2 = true ∧ (mixS s xs i).2.2.length = i := by
  obtain ⟨h1, h2, _⟩ := mixAt_ok (⟨#[]⟩ : Str) s xs i hi
  refine ⟨?_, h2⟩
  have hok := rowOk_all h
  have hn := rowOk_nodup h
  unfold rowOk
  rw [Bool.and_eq_true]
  refine ⟨List.all_eq_true.mpr fun z hz => hok z (h1.mem_iff.mp (List.mem_append_left _ hz)), decide_eq_true ?_⟩
  exact (List.nodup_append.mp (h1.nodup_iff.mpr hn)).1
theorem rowOk_sub {xs ys : List Str} (h : rowOk ys = true) (hs : xs.Sublist ys) : rowOk xs = true := by
  unfold rowOk
  rw [Bool.and_eq_true]
  exact ⟨List.all_eq_true.mpr fun z hz => rowOk_all h z (hs.subset hz), decide_eq_true ((rowOk_nodup h).sublist hs)⟩
theorem deck_ok : rowOk deckS = true := by decide +kernel
theorem ok_short {zs : List Str} (h : rowOk zs = true) (hz : zs.length ≤ 1000) : shortRow zs := ⟨hz, fun z h' => by
  have := okc_len (rowOk_all h z h')
  omega⟩
/-! hands -/
theorem stride_ix (n p : Nat) (hp : p < n) : ∀ N, (List.range N).filter (fun k => decide (k % n = p)) = (List.range ((N - p + n - 1) / n)).map fun m => p + m * n
  | 0 => by
    rw [Nat.zero_sub, Nat.zero_add, Nat.div_eq_of_lt (by omega)]
    rfl
  | N + 1 => by
    rw [List.range_succ, List.filter_append, stride_ix n p hp N]
    have hn : 0 < n := by omega
    by_cases hN : N < p
    · rw [show N + 1 - p = 0 by omega, show N - p = 0 by omega, Nat.zero_add, Nat.div_eq_of_lt (by omega : n - 1 < n)]
      have : ¬ N % n = p := by
        rw [Nat.mod_eq_of_lt (by omega)]
        omega
      rw [List.filter_cons, decide_eq_false this]
      rfl
    · obtain ⟨q, r, e, hr⟩ : ∃ q r, N = p + (n * q + r) ∧ r < n := ⟨(N - p) / n, (N - p) % n, by have := Nat.div_add_mod (N - p) n; omega, Nat.mod_lt _ hn⟩
      have e1 : (N + 1 - p + n - 1) / n = q + 1 := by
        rw [show N + 1 - p + n - 1 = r + n * (q + 1) by rw [Nat.mul_succ]; omega, Nat.add_mul_div_left _ _ hn, Nat.div_eq_of_lt hr, Nat.zero_add]
      have e3 : N % n = (p + r) % n := by rw [e, show p + (n * q + r) = (p + r) + n * q by omega, Nat.add_mul_mod_self_left]
      rw [e1]
      by_cases h0 : r = 0
      · have e2 : (N - p + n - 1) / n = q := by
          rw [show N - p + n - 1 = (n - 1) + n * q by omega, Nat.add_mul_div_left _ _ hn, Nat.div_eq_of_lt (by omega), Nat.zero_add]
        rw [e2, List.range_succ, List.map_append]
        congr 1
        have : N % n = p := by rw [e3, h0, Nat.add_zero, Nat.mod_eq_of_lt hp]
        rw [List.filter_cons, decide_eq_true this, if_pos rfl, List.filter_nil, List.map_singleton]
        rw [e, h0, Nat.mul_comm q n]
        rfl
      · have e2 : (N - p + n - 1) / n = q + 1 := by
          rw [show N - p + n - 1 = (r - 1) + n * (q + 1) by rw [Nat.mul_succ]; omega, Nat.add_mul_div_left _ _ hn, Nat.div_eq_of_lt (by omega), Nat.zero_add]
        rw [e2]
        have : ¬ N % n = p := by
          rw [e3]
          by_cases hpr : p + r < n
          · rw [Nat.mod_eq_of_lt hpr]; omega
          · rw [Nat.mod_eq_sub_mod (by omega), Nat.mod_eq_of_lt (by omega)]
            omega
        rw [List.filter_cons, decide_eq_false this]
        simp
theorem pick_enum (f : Nat → Bool) (ds : List D) : ∀ N, N ≤ ds.length → ((enumD ds).take N).filterMap (fun x => match x with | .pr [.int k, c] => if f k.toNat then some c else none | _ => none) = ((List.range N).filter f).filterMap fun k => ds[k]?
  | 0, _ => rfl
  | N + 1, h => by
    have hx : (enumD ds)[N]? = some (.pr [.int (N : Nat), ds[N]]) := by
      unfold enumD
      rw [List.getElem?_mapIdx, List.getElem?_eq_getElem h]
      rfl
    rw [List.take_add_one, hx, List.filterMap_append, pick_enum f ds N (by omega), List.range_succ, List.filter_append, List.filterMap_append]
    congr 1
    rw [List.filter_cons, List.filter_nil]
    show List.filterMap _ [D.pr [.int (N : Nat), ds[N]]] = _
    rw [List.filterMap_cons]
    simp only [Int.toNat_natCast, List.filterMap_nil]
    by_cases hf : f N = true
    · rw [if_pos hf, if_pos hf]
      simp [List.getElem?_eq_getElem h]
    · rw [if_neg hf, if_neg hf]
      simp
def handF (n p : Nat) : D → Option D
  | .pr [.int k, c] => if decide (k.toNat % n = p) then some c else none
  | _ => none
theorem hand_eq (ds : List D) {n p : Nat} (hp : p < n) : (enumD ds).filterMap (handF n p) = StepS.strided ds p n := by
  have h := pick_enum (fun k => decide (k % n = p)) ds ds.length (Nat.le_refl _)
  rw [List.take_of_length_le (by rw [enumD_len]; exact Nat.le_refl _)] at h
  rw [show (enumD ds).filterMap (handF n p) = (enumD ds).filterMap (fun x => match x with | .pr [.int k, c] => if decide (k.toNat % n = p) then some c else none | _ => none) from rfl, h, stride_ix n p hp]
  unfold StepS.strided
  rw [List.filterMap_map]
  rfl
/-! orders, runs, rising rows -/
def ordF (zs : List Str) : D → Option D
  | .str z => if decide (z ∈ zs) then some (.int (zs.idxOf z : Nat)) else none
  | _ => none
theorem ord_eq (zs : List Str) : (deckS.map D.str).filterMap (ordF zs) = (newOrd zs).map .int := by
  unfold newOrd
  generalize deckS = L
  induction L with
  | nil => rfl
  | cons z L ih =>
    rw [List.map_cons, List.filterMap_cons, List.filter_cons]
    by_cases h : z ∈ zs
    · rw [show ordF zs (.str z) = some (.int (zs.idxOf z : Nat)) from if_pos (decide_eq_true h)]
      rw [decide_eq_true h, if_pos rfl, List.map_cons, List.map_cons]
      simp only
      rw [ih]
    · rw [show ordF zs (.str z) = none from if_neg (by rw [decide_eq_false h]; exact Bool.false_ne_true)]
      rw [decide_eq_false h, if_neg Bool.false_ne_true]
      exact ih
def pieceF (zs : List Str) : D → Option D
  | .pr [.int k, _] => if runAt zs k.toNat then some (.int 1) else none
  | _ => none
theorem piece_len (zs : List Str) : ∀ N, N ≤ zs.length → (((enumD (zs.map .str)).take N).filterMap (pieceF zs)).length = runsTo zs N
  | 0, _ => rfl
  | N + 1, h => by
    have hx : (enumD (zs.map D.str))[N]? = some (.pr [.int (N : Nat), .str zs[N]]) := by
      unfold enumD
      rw [List.getElem?_mapIdx, List.getElem?_map, List.getElem?_eq_getElem h]
      rfl
    rw [List.take_add_one, hx, List.filterMap_append, List.length_append, piece_len zs N (by omega)]
    show _ + (List.filterMap (pieceF zs) [D.pr [.int (N : Nat), .str zs[N]]]).length = runsTo zs N + _
    congr 1
    rw [List.filterMap_cons]
    unfold pieceF
    simp only [Int.toNat_natCast, List.filterMap_nil]
    by_cases hf : runAt zs N = true
    · rw [if_pos hf, if_pos hf]
      rfl
    · rw [if_neg hf, if_neg hf]
      rfl
def falls : Int → List Int → Nat
  | _, [] => 0
  | a, b :: r => (if b < a then 1 else 0) + falls b r
theorem falls_zip : ∀ (a : Int) (r : List Int), (((a :: r).zip r).filter fallB).length = falls a r
  | _, [] => rfl
  | a, b :: r => by
    have ih := falls_zip b r
    rw [List.zip_cons_cons, List.filter_cons]
    unfold falls
    by_cases h : b < a
    · rw [show fallB (a, b) = true from decide_eq_true h, if_pos rfl, if_pos h, List.length_cons, ih]
      omega
    · rw [show fallB (a, b) = false from decide_eq_false h, if_neg Bool.false_ne_true, if_neg h, ih, Nat.zero_add]
theorem falls_ris {n : Int} {ps : List Int} (h : ∀ p ∈ ps, p < n) : falls n ps = risN ps := by
  unfold risN
  cases ps with
  | nil => rfl
  | cons a r =>
    rw [if_neg (by intro z; cases z)]
    show (if a < n then 1 else 0) + falls a r = _
    rw [if_pos (h a (by simp)), List.drop_succ_cons, List.drop_zero, falls_zip]
    omega
theorem newOrd_lt (zs : List Str) : ∀ p ∈ newOrd zs, p < (zs.length : Int) := fun p hp => by
  unfold newOrd at hp
  obtain ⟨z, hz, rfl⟩ := List.mem_map.mp hp
  have := List.idxOf_lt_length_of_mem (of_decide_eq_true (List.mem_filter.mp hz).2)
  omega
/-! the best five -/
def pairP (zs : List Str) (r : List Nat) : PyData := .tuple [.int (kix zs r), .tuple ((riL r).map .int)]
def pairDD (zs : List Str) (r : List Nat) : D := .tup [.int (kix zs r), rowD r]
theorem alike_pair (zs : List Str) (r r' : List Nat) : alike (pairP zs r) (pairP zs r') = true := by
  have h1 := alikeAll_map (riL r) (riL r')
  unfold pairP
  simp only [alike, alikeAll, Bool.and_true, Bool.true_and]
  exact h1
theorem lt_pair (zs : List Str) (r r' : List Nat) : dataLt (pairP zs r) (pairP zs r') = keyLt zs r r' := by
  unfold pairP keyLt
  rw [dataLt_tuple]
  by_cases e : kix zs r = kix zs r'
  · rw [if_pos e, dataLt_all_yes (by simp [alike]) (by rw [enc_int.eq]; exact decide_eq_true e)]
    by_cases e2 : r = r'
    · subst e2
      rw [so_listI.ir]
      exact lex_irrefl _
    · rw [dataLt_all_no (by simp only [alike]; exact alikeAll_map (riL r) (riL r')) (by rw [enc_int.tup.eq]; exact decide_eq_false fun q => e2 (riL_inj q))]
      rw [dataLt_tuple]
      exact lexAll_map (riL r) (riL r')
  · rw [if_neg e, dataLt_all_no (by simp [alike]) (by rw [enc_int.eq]; exact decide_eq_false e), dataLt_int]
theorem map_int_inj : ∀ {a b : List Int}, a.map PyData.int = b.map PyData.int → a = b
  | [], [], _ => rfl
  | [], _ :: _, h => by cases h
  | _ :: _, [], h => by cases h
  | x :: a, y :: b, h => by
    rw [List.map_cons, List.map_cons] at h
    injection h with h1 h2
    injection h1 with h1
    rw [h1, map_int_inj h2]
theorem pairP_inj {zs : List Str} {r r' : List Nat} (h : pairP zs r = pairP zs r') : r = r' := by
  unfold pairP at h
  injection h with h
  injection h with _ h
  injection h with h _
  injection h with h
  exact riL_inj (map_int_inj h)
theorem min_pair (zs : List Str) : ∀ (rs : List (List Nat)) (r0 : List Nat), minD (pairP zs r0) (rs.map (pairP zs)) = pairP zs (rs.foldl (fun a y => if keyLt zs y a = true then y else a) r0)
  | [], r0 => rfl
  | r :: rs, r0 => by
    have ih := min_pair zs rs (if keyLt zs r r0 = true then r else r0)
    unfold minD at ih ⊢
    rw [List.map_cons, List.foldl_cons, List.foldl_cons, ← ih, lt_pair]
    congr 1
    split <;> rfl
theorem pair_py {W : OW} (zs : List Str) (r : List Nat) : Py W (pairDD zs r) (pairP zs r) := py_tup2 (.int _) (Py.intsT _)
theorem pairs_py {W : OW} (zs : List Str) (rs : List (List Nat)) : Py W (.lst (rs.map (pairDD zs))) (.list (rs.map (pairP zs))) := .lst (by simp) fun i d p h1 h2 => by
  rw [List.getElem?_map] at h1 h2
  cases e : rs[i]? with
  | none => rw [e] at h1; cases h1
  | some z =>
    rw [e] at h1 h2
    cases h1
    cases h2
    exact pair_py zs z
theorem pairs_alike (zs : List Str) (rs : List (List Nat)) : AlikeAll (rs.map (pairP zs)) := ⟨fun x hx y hy => by
  obtain ⟨r, _, rfl⟩ := List.mem_map.mp hx
  obtain ⟨r', _, rfl⟩ := List.mem_map.mp hy
  exact alike_pair zs r r', fun x hx => by
  obtain ⟨r, _, rfl⟩ := List.mem_map.mp hx
  intro h
  cases h⟩
theorem pairs_depth (zs : List Str) : ∀ rs : List (List Nat), PyData.depthAll (rs.map (pairP zs)) ≤ 60
  | [] => by rw [List.map_nil, PyData.depthAll]; exact Nat.zero_le _
  | r :: rs => by
    rw [List.map_cons, PyData.depthAll]
    refine Nat.max_le.mpr ⟨?_, pairs_depth zs rs⟩
    have a : (PyData.tuple ((riL r).map PyData.int)).depth ≤ 1 := enc_int.tup.dep (riL r)
    have c : (PyData.int (kix zs r)).depth = 0 := by rw [PyData.depth]
    unfold pairP
    rw [PyData.depth, PyData.depthAll, PyData.depthAll, PyData.depthAll]
    simp only [Nat.max_def]
    split <;> split <;> omega
/-- what min gives is the best -/
theorem min_best {zs : List Str} (h5 : 5 ≤ zs.length) {r0 : List Nat} {rs : List (List Nat)} (hf : fives zs.length = r0 :: rs) {i : Nat} {d : D} (h1 : ((r0 :: rs).map (pairDD zs))[i]? = some d) (h2 : ((r0 :: rs).map (pairP zs))[i]? = some (minD (pairP zs r0) (rs.map (pairP zs)))) : ∃ b, IsBest zs b ∧ d = pairDD zs b := by
  rw [min_pair, List.getElem?_map] at h2
  rw [List.getElem?_map] at h1
  cases e : (r0 :: rs)[i]? with
  | none => rw [e] at h1; cases h1
  | some b =>
    rw [e] at h1 h2
    cases h1
    have hb : b = rs.foldl (fun a y => if keyLt zs y a = true then y else a) r0 := pairP_inj (Option.some.inj h2)
    obtain ⟨q1, q2⟩ := fold_min (so_key zs) rs r0
    rw [← hb] at q1 q2
    refine ⟨b, ⟨(fives_mem _ _).mp (hf ▸ q1), fun r' hr' => q2 r' (hf ▸ (fives_mem _ _).mpr hr')⟩, rfl⟩
theorem fives_ne {n : Nat} (h : 5 ≤ n) : ∃ r0 rs, fives n = r0 :: rs := by
  have : [0, 1, 2, 3, 4] ∈ fives n := (fives_mem _ _).mpr ⟨rfl, by decide, fun x hx => by
    have : x ≤ 4 := (show ∀ x ∈ [0, 1, 2, 3, 4], x ≤ 4 by decide) x hx
    omega⟩
  cases e : fives n with
  | nil => rw [e] at this; cases this
  | cons r0 rs => exact ⟨r0, rs, rfl⟩
end K1
set_option Elab.async false
set_option linter.all false
set_option maxRecDepth 100000
set_option maxHeartbeats 2000000
set_option autoImplicit false
namespace K1
open PySem PySem.Spec PySem.W PyProof.Rows L2 Sh
abbrev st_law : Stmt := topS 28
abbrev NL : List Str := ["script", "order", "dice", "near", "cards", "hands", "piles", "whole", "pile", "places", "pieces", "rows", "last", "place", "card", "few", "some", "kinds", "best", "bad", "k", "f", "row"]
theorem sc_law : FnScope NL ["script"] (defScope st_law) := ⟨rfl, rfl, rfl, by decide +kernel, rfl, by decide +kernel, by decide +kernel⟩
def forBody : Stmt → List Stmt
  | .For _ _ b _ _ => b
  | _ => []
def lawBody : List Stmt := forBody ((defBody st_law).getD 1 (.Pass ⟨0, 0, 0, 0⟩))
abbrev W3 (L p : Addr) (s : Dice) (W0 : OW) : OW := (L, .lst [.ptr p]) :: (p, diceA s) :: W0
/-- what the law calls -/
structure LawK (P : Program) (w : World) (K : PySem.W.Frag) (mg : Str → Option Value) (base : Heap) (T : Tb) (k : Nat) (CD : Addr) : Prop where
  D : Deck K mg CD
  Kd : Kinds K mg
  tuple : mg "tuple" = none
  list : mg "list" = none
  range : mg "range" = none
  int : mg "int" = none
  min : mg "min" = none
  enum : mg "enumerate" = none
  roll : Fd P w K mg base T "_law_roll" k 2 SRoll
  mixed : Fd P w K mg base T "_law_mixed" k 3 SMix
  deck : Fd P w K mg base T "_law_deck" k 0 SLDeck
  rounds : FdR P w K mg base T "_law_rounds" k 2 (SRounds K T)
  kind : Fd P w K mg base T "_law_kind" k 1 SLKind
  fives : Fd P w K mg base T "_law_fives" k 1 SFives
  told : Told P w K mg "_law_told" CD "DeckError"
  check_card : Fd P w K mg base T "check_card" k 1 (SChk CD)
  full_deck : Fd P w K mg base T "full_deck" k 0 SDeck
  rank_of : Fd P w K mg base T "rank_of" k 1 (SRank CD)
  is_red : Fd P w K mg base T "is_red" k 1 (SRed CD)
  check_row : Fd P w K mg base T "check_row" k 1 (SRow CD)
  dealt : Fd P w K mg base T "dealt" k 2 (SDealt CD)
  gathered : Fd P w K mg base T "gathered" k 1 SGath
  new_order : Fd P w K mg base T "new_order" k 1 (SNew CD)
  runs_up : Fd P w K mg base T "runs_up" k 1 (SRuns CD)
  rising : Fd P w K mg base T "rising" k 1 (SRis CD)
  hand_kind : Fd P w K mg base T "hand_kind" k 1 (SKind CD)
  best_five : Fd P w K mg base T "best_five" k 1 (SBest CD)
section
variable {P : Program} {w : World} {K : PySem.W.Frag} {mg : Str → Option Value} {base : Heap} {T : Tb} {CD : Addr}
theorem roll_law {F : CF} {Γ : Ga} {W0 : OW} {L p : Addr} {s : Dice} {p1 p2 p3 pos : Pos} {j : Nat} {n : Int} (hroll : F.Fd "_law_roll" F.k 2 SRoll) (hN : F.N[2]? = some ("dice" : Str)) (hv : VisS F.sc "dice") (hΓ : Γ[2]? = some (some (.ptr p))) (hg : GlS F "_law_roll") (h0 : 0 < n) (h1 : n ≤ 100000000) :
    EV F (.Call (.Name "_law_roll" p1) [.Name "dice" p2, .Constant (.int n) j p3] [] pos) Γ (W3 L p s W0) (.ok (.int (rollV s n))) (W3 L p (rollN s n) W0) :=
  ev_at (i := 1) (m := diceA s) hroll (Nat.le_refl _) hg (ea_cons (ev_var 2 hN hv hΓ) (ea_cons ev_int ea_nil)) rfl (.mk p s n h0 h1)
abbrev FL (P : Program) (w : World) (K : PySem.W.Frag) (mg : Str → Option Value) (base : Heap) (T : Tb) (k : Nat) (cd : Value) (E : XK) (cl : List (Str × Addr)) : CF := ⟨P, w, K, mg, base, NL, defScope st_law, k, cd, E, T, "law" ++ ".<locals>.", some cl⟩
def nearS (v u : Int) : List Str := (deckS.drop v.toNat).take u.toNat
theorem near_eq {v u : Int} (h1 : 0 ≤ v) (h2 : 0 ≤ u) : cutD (cutD deckD (some v) none) none (some u) = (nearS v u).map D.str := by
  unfold nearS
  rw [show v = ((v.toNat : Nat) : Int) by omega, show u = ((u.toNat : Nat) : Int) by omega, cutD_from, cutD_to, Int.toNat_natCast, Int.toNat_natCast]
  unfold deckD
  rw [List.map_take, List.map_drop]
theorem near_ok (v u : Int) : rowOk (nearS v u) = true := rowOk_sub deck_ok ((List.take_sublist _ _).trans (List.drop_sublist _ _))
theorem near_len (v u : Int) (h : u < 12) : (nearS v u).length ≤ 12 := by
  unfold nearS
  rw [List.length_take]
  omega
/-- the slots: what is known, then nothing -/
abbrev GL (l : List D) : Ga := l.map some ++ List.replicate (23 - l.length) none
theorem deck_len : deckS.length = 52 := by decide
theorem mix_ev {F : CF} {Γ : Ga} {W0 : OW} {L p : Addr} {s : Dice} {xs : List Str} {m : Int} {p1 p2 pos : Pos} {e1 e2 : Expr} {s' : Dice} (hmix : F.Fd "_law_mixed" F.k 3 SMix) (hN : F.N[2]? = some ("dice" : Str)) (hv : VisS F.sc "dice") (hΓ : Γ[2]? = some (some (.ptr p))) (hg : GlS F "_law_mixed") (hz : xs.length ≤ 1000) (h0 : 0 ≤ m) (h1 : m ≤ 100000000)
    (ha : EA F [e1, e2] Γ (W3 L p s W0) (.ok [.lst (xs.map .str), .int m]) (W3 L p s' W0)) (he1 : ∀ env, starEach [.Name "dice" p2, e1, e2] env = (false, eval (.Name "dice" p2) env) :: starEach [e1, e2] env := by intro _; rfl) (hpl : ∀ env, (backTo pos (starEach [e1, e2] env)).any (·.1) = false := by intro _; rfl) :
    EV F (.Call (.Name "_law_mixed" p1) [.Name "dice" p2, e1, e2] [] pos) Γ (W3 L p s W0) (.ok (.lst ((mixS s' xs (mixM m xs.length)).2.2.map .str))) (W3 L p (mixS s' xs (mixM m xs.length)).1 W0) := by
  have h := ev_at (pos := pos) (p := p1) (i := 1) (m := diceA s') hmix (Nat.le_refl _) hg (ea_cons (ev_var 2 hN hv hΓ) ha he1) rfl (.mk p s' (.lst (xs.map .str)) (xs.map .str) m .lst (by rw [List.length_map]; exact hz) h0 h1) (he := he1) (hpl := hpl)
  have hm : mixM m (xs.map Sh.D.str).length ≤ xs.length := by
    rw [List.length_map]
    unfold mixM
    omega
  rw [mixAt_str s' xs _ hm, List.length_map] at h
  exact h
theorem three_at {v : Int} {a b c : List Str} (h : 0 ≤ v ∧ v < 3) (ha : rowOk a = true) (hb : rowOk b = true) (hc : rowOk c = true) (la : a.length ≤ 52) (lb : b.length ≤ 52) (lc : c.length ≤ 52) : ∃ cs : List Str, rowOk cs = true ∧ cs.length ≤ 52 ∧ L2.atI [D.lst (a.map .str), .lst (b.map .str), .lst (c.map .str)] v = some (.lst (cs.map .str)) := by
  have : v = ((0 : Nat) : Int) ∨ v = ((1 : Nat) : Int) ∨ v = ((2 : Nat) : Int) := by omega
  rcases this with e | e | e
  · exact ⟨a, ha, la, by rw [e]; exact atI_nat rfl⟩
  · exact ⟨b, hb, lb, by rw [e]; exact atI_nat rfl⟩
  · exact ⟨c, hc, lc, by rw [e]; exact atI_nat rfl⟩
/-- what must hold behind the first statements, whatever was drawn -/
theorem law_a {k : Nat} {cd : Value} {E : XK} {cl : List (Str × Addr)} {A : AE} (L0 : LawK P w K mg base T k CD) {q L p : Addr} {s : Dice} {W0 : OW}
    (h : ∀ (s' : Dice) (near cs : List Str) (n : Nat), rowOk cs = true → cs.length ≤ 52 → 1 ≤ n → n ≤ 6 → SS (FL P w K mg base T k cd E cl) (lawBody.drop 3) (GL [.ptr q, .lst deckD, .ptr p, .lst (near.map .str), .lst (cs.map .str), .int n]) (W3 L p s' W0) A) :
    SS (FL P w K mg base T k cd E cl) lawBody (GL [.ptr q, .lst deckD, .ptr p]) (W3 L p s W0) A := by
  have r30 := rollV_in s (n := 30) (by decide)
  refine ss_cons (s1_set 3 rfl (.inl rfl) (evr_of (EN.ev (EN.to (en_slice (EN.ev (en_slice (ev_var 1 rfl (.inr (.inl rfl)) rfl) (eo_some (roll_law L0.roll rfl (.inl rfl) rfl (by rfl) (by decide) (by decide))) eo_none .lst)) eo_none (eo_some (roll_law L0.roll rfl (.inl rfl) rfl (by rfl) (by decide) (by decide))) .lst) (near_eq r30.1 (rollV_in _ (by decide)).1))) ?_))
  have hnl := near_len (rollV s 30) (rollV (rollN s 30) 12) (rollV_in _ (by decide)).2
  have hno := near_ok (rollV s 30) (rollV (rollN s 30) 12)
  generalize nearS (rollV s 30) (rollV (rollN s 30) 12) = near at hnl hno ⊢
  generalize rollN (rollN s 30) 12 = s1
  have r20 := rollV_in s1 (n := 20) (by decide)
  have hm1 : mixM (rollV s1 20) deckS.length ≤ deckS.length := by unfold mixM; omega
  obtain ⟨c1, c2⟩ := mixS_ok (rollN s1 20) deck_ok hm1
  have hmi : mixM 12 near.length ≤ near.length := by unfold mixM; omega
  obtain ⟨d1, d2⟩ := mixS_ok (mixS (rollN s1 20) deckS (mixM (rollV s1 20) deckS.length)).1 hno hmi
  have hsz := deck_len
  have hv3 := rollV_in (mixS (mixS (rollN s1 20) deckS (mixM (rollV s1 20) deckS.length)).1 near (mixM 12 near.length)).1 (n := 3) (by decide)
  obtain ⟨cs, hc1, hc2, hat⟩ := three_at (v := rollV (mixS (mixS (rollN s1 20) deckS (mixM (rollV s1 20) deckS.length)).1 near (mixM 12 near.length)).1 3) (a := (mixS (rollN s1 20) deckS (mixM (rollV s1 20) deckS.length)).2.2) (b := (mixS (mixS (rollN s1 20) deckS (mixM (rollV s1 20) deckS.length)).1 near (mixM 12 near.length)).2.2) (c := near) hv3 c1 d1 hno (by omega) (by omega) (by omega)
  refine ss_cons (s1_set 4 rfl (.inr rfl) (evr_of (ev_ix (EN.ev (en_lst (ea_cons (mix_ev (xs := deckS) (m := rollV s1 20) L0.mixed rfl (.inl rfl) rfl (by rfl) (by omega) r20.1 (by omega) (ea_cons (ev_var 1 rfl (.inr (.inl rfl)) rfl) (ea_cons (roll_law L0.roll rfl (.inl rfl) rfl (by rfl) (by decide) (by decide)) ea_nil))) (ea_cons (mix_ev (xs := near) (m := 12) L0.mixed rfl (.inl rfl) rfl (by rfl) (by omega) (by decide) (by decide) (ea_cons (ev_var 3 rfl (.inl rfl) rfl) (ea_cons ev_int ea_nil))) (ea_cons (ev_var 3 rfl (.inl rfl) rfl) ea_nil))) (Nat.le_of_ble_eq_true rfl))) (roll_law L0.roll rfl (.inl rfl) rfl (by rfl) (by decide) (by decide)) (.lst .lst hat)) ?_))
  generalize rollN (mixS (mixS (rollN s1 20) deckS (mixM (rollV s1 20) deckS.length)).1 near (mixM 12 near.length)).1 3 = s4
  have r6 := rollV_in s4 (n := 6) (by decide)
  refine ss_cons (s1_set 5 rfl (.inr rfl) (evr_of (EV.to (d1 := .int ((1 + rollV s4 6).toNat : Nat)) (ev_bin ev_int (roll_law L0.roll rfl (.inl rfl) rfl (by rfl) (by decide) (by decide)) (.addI _ _)) (congrArg Sh.D.int (by omega))) ?_))
  exact h (rollN s4 6) near cs _ hc1 hc2 (by omega) (by omega)
end
end K1
set_option Elab.async false
set_option linter.all false
set_option maxRecDepth 100000
set_option maxHeartbeats 2000000
set_option autoImplicit false
namespace K1
open PySem PySem.Spec PySem.W PyProof.Rows L2 Sh
def pilesD (cs : List Str) (n : Nat) : List D := (List.range n).map fun i => .tup (StepS.strided (cs.map D.str) i n)
def tupsL : D → List D
  | .tup l => l
  | _ => []
def wholeD (cs : List Str) (n : Nat) : List D := (pilesD cs n).flatMap tupsL
section
variable {P : Program} {w : World} {K : PySem.W.Frag} {mg : Str → Option Value} {base : Heap} {T : Tb} {CD : Addr}
theorem law_b {k : Nat} {cd : Value} {E : XK} {cl : List (Str × Addr)} {A : AE} (L0 : LawK P w K mg base T k CD) {q p : Addr} {near cs : List Str} {n : Nat} {W : OW} (hl : cs.length ≤ 52) (h1 : 1 ≤ n) (h6 : n ≤ 6)
    (h : SS (FL P w K mg base T k cd E cl) (lawBody.drop 4) (GL [.ptr q, .lst deckD, .ptr p, .lst (near.map .str), .lst (cs.map .str), .int n, .lst (pilesD cs n)]) W A) :
    SS (FL P w K mg base T k cd E cl) (lawBody.drop 3) (GL [.ptr q, .lst deckD, .ptr p, .lst (near.map .str), .lst (cs.map .str), .int n]) W A := by
  have hz : (cs.map D.str).length < sizeLine := by
    rw [List.length_map]
    exact Nat.lt_of_le_of_lt hl (by decide)
  refine ss_cons (s1_setLcFB (own := [("pile", 8)]) 6 (fun x => some (Sh.D.tup (StepS.strided (cs.map Sh.D.str) (Sh.intD x).toNat n))) sc_law.nd rfl rfl rfl rfl (by rfl) (by rfl) (ei_range1 (by rfl) L0.range (ev_var 5 rfl (.inr (.inl rfl)) rfl) (by constructor <;> omega)) trivial (fun x hx => ?_) ?_ ?_)
  · obtain ⟨i, hi, rfl⟩ := List.mem_map.mp hx
    have hi : i < n := by
      have := List.mem_range.mp hi
      omega
    refine turnS_map (eg_cell 8 rfl (by rfl) (by rfl)) (by decide) (EV.to (ev_tupleL (by rfl) L0.tuple (EN.ev (EN.to (en_lcF (own := [("k", 20), ("card", 14)]) (handF n i) sc_law.nd (by rfl) (ei_enumL (by rfl) L0.enum (ev_var 4 rfl (.inr (.inl (by rfl))) rfl) .lst) .lst (fun y hy => ?_) ?_) (hand_eq _ hi))) .lst) ?_)
    · obtain ⟨j, hj⟩ := List.getElem?_of_mem hy
      obtain ⟨c, hc, rfl⟩ := enumD_get hj
      rw [List.getElem?_map] at hc
      refine turn_if (r := decide (j % n = i)) (eg_pr (fun X h => h) (egs_cons (eg_name (fun X h => h) 20 rfl (.inl (by rfl))) (egs_cons (eg_name (fun X h => h) 14 rfl (.inl (by rfl)) (fun ds e => ?_)) egs_nil)) rfl) (by decide) (ET.to (et_cmpR (ev_bin (ev_var 20 rfl (.inl (by rfl)) rfl) (ev_var 5 rfl (.inr (.inl (by rfl))) rfl) (.modI _ _ (by omega))) (ev_var 8 rfl (.inr (.inl (by rfl))) rfl) (.eqI _ _)) ?_) fun _ => ev_var 14 rfl (.inl (by rfl)) rfl
      · cases e2 : cs[j]? with
        | none => rw [e2] at hc; cases hc
        | some z =>
          rw [e2] at hc
          cases hc
          cases e
      · exact decide_eq_decide.mpr (by omega)
    · rw [enumD_len]
      exact hz
    · show Sh.D.tup _ = Sh.D.tup (StepS.strided _ (Sh.intD (.int (0 + (i : Int)))).toNat n)
      rw [show (Sh.intD (.int (0 + (i : Int)))).toNat = i from by show (0 + (i : Int)).toNat = i; omega]
  · rw [rngD_len]
    exact Nat.lt_of_le_of_lt (show _ ≤ 6 by omega) (by decide)
  · have e : (rngD 0 ((n : Nat) : Int).toNat).filterMap (fun x => some (Sh.D.tup (StepS.strided (cs.map Sh.D.str) (Sh.intD x).toNat n))) = pilesD cs n := by
      rw [List.filterMap_eq_map']
      unfold rngD pilesD
      rw [List.map_map, Int.toNat_natCast]
      refine List.map_congr_left fun i _ => ?_
      show Sh.D.tup (StepS.strided _ (0 + (i : Int)).toNat n) = _
      rw [show (0 + (i : Int)).toNat = i by omega]
    show SS _ _ (List.set _ 6 (some (.lst _))) W A
    rw [e]
    exact h
end
end K1
set_option Elab.async false
set_option linter.all false
set_option maxRecDepth 100000
set_option maxHeartbeats 2000000
set_option autoImplicit false
namespace K1
open PySem PySem.Spec PySem.W PyProof.Rows L2 Sh
/-- all piles together are no longer than n rows -/
theorem whole_len (cs : List Str) (n : Nat) (hn : 0 < n) : ∀ i, ((((pilesD cs n).take i).flatMap tupsL)).length ≤ i * cs.length
  | 0 => by simp
  | i + 1 => by
    have ih := whole_len cs n hn i
    rw [List.take_add_one, List.flatMap_append, List.length_append, Nat.succ_mul]
    have h2 : ((pilesD cs n)[i]?.toList.flatMap tupsL).length ≤ cs.length := by
      cases e : (pilesD cs n)[i]? with
      | none => simp
      | some d =>
        unfold pilesD at e
        rw [List.getElem?_map] at e
        cases e2 : (List.range n)[i]? with
        | none => rw [e2] at e; cases e
        | some j =>
          rw [e2] at e
          cases e
          have := strided_len (cs.map D.str) j n hn
          rw [List.length_map] at this
          simpa [tupsL] using this
    omega
section
variable {P : Program} {w : World} {K : PySem.W.Frag} {mg : Str → Option Value} {base : Heap} {T : Tb} {CD : Addr}
theorem law_c {k : Nat} {cd : Value} {E : XK} {cl : List (Str × Addr)} {A : AE} (L0 : LawK P w K mg base T k CD) {q p : Addr} {near cs : List Str} {n : Nat} {W : OW} (hl : cs.length ≤ 52) (h1 : 1 ≤ n) (h6 : n ≤ 6)
    (h : ∀ x8, SS (FL P w K mg base T k cd E cl) (lawBody.drop 6) ([some (.ptr q), some (.lst deckD), some (.ptr p), some (.lst (near.map .str)), some (.lst (cs.map .str)), some (.int n), some (.lst (pilesD cs n)), some (.tup (wholeD cs n)), x8] ++ List.replicate 14 none) W A) :
    SS (FL P w K mg base T k cd E cl) (lawBody.drop 4) (GL [.ptr q, .lst deckD, .ptr p, .lst (near.map .str), .lst (cs.map .str), .int n, .lst (pilesD cs n)]) W A := by
  have hpl : (pilesD cs n).length = n := by
    unfold pilesD
    rw [List.length_map, List.length_range]
  refine ss_cons (s1_set 7 rfl (.inl rfl) (evr_of (ev_tup ea_nil (by decide)) ?_))
  refine ss_cons (s1_for (ei_list (ev_var 6 rfl (.inl rfl) rfl) .lst) (fun i Γ' W' => (∃ x8, Γ' = [some (.ptr q), some (.lst deckD), some (.ptr p), some (.lst (near.map .str)), some (.lst (cs.map .str)), some (.int n), some (.lst (pilesD cs n)), some (.tup (((pilesD cs n).take i).flatMap tupsL)), x8] ++ List.replicate 14 none) ∧ W' = W) ⟨⟨_, rfl⟩, rfl⟩ (fun _ _ _ _ => .inl rfl) (fun i d Γ' W' hd hI => ?_) (fun Γ' W' hI => ?_))
  · obtain ⟨⟨x8, rfl⟩, rfl⟩ := hI
    have hi : i < n := by
      rw [← hpl]
      exact (List.getElem?_eq_some_iff.mp hd).1
    have hlen := whole_len cs n h1 i
    have hlen2 := whole_len cs n h1 (i + 1)
    obtain ⟨l, rfl⟩ : ∃ l, d = .tup l := by
      unfold pilesD at hd
      rw [List.getElem?_map] at hd
      cases e2 : (List.range n)[i]? with
      | none => rw [e2] at hd; cases hd
      | some j => rw [e2] at hd; cases hd; exact ⟨_, rfl⟩
    have et : ((pilesD cs n).take (i + 1)).flatMap tupsL = ((pilesD cs n).take i).flatMap tupsL ++ l := by
      rw [List.take_add_one, hd, List.flatMap_append]
      simp [tupsL]
    rw [et, List.length_append] at hlen2
    have hb : (i + 1) * cs.length ≤ 6 * 52 := Nat.mul_le_mul (by omega) hl
    refine ⟨_, _, eg_name (fun X h => h.toG) 8 rfl (.inl rfl), ss_one (s1_set 7 rfl (.inl rfl) (evr_of (ev_bin (ev_var 7 rfl (.inl rfl) rfl) (ev_var 8 rfl (.inl rfl) rfl) (.addT _ _ ?_)) ⟨⟨some (.tup l), ?_⟩, rfl⟩))⟩
    · exact Nat.le_trans (show _ ≤ 1000 by omega) (by decide)
    · rw [et]
      rfl
  · obtain ⟨⟨x8, rfl⟩, rfl⟩ := hI
    rw [List.take_length]
    exact h x8
end
end K1
set_option Elab.async false
set_option linter.all false
set_option maxRecDepth 100000
set_option maxHeartbeats 2000000
set_option autoImplicit false
namespace K1
open PySem PySem.Spec PySem.W PyProof.Rows L2 Sh
theorem strided_map {α β : Type} (f : α → β) (xs : List α) (a c : Nat) : StepS.strided (xs.map f) a c = (StepS.strided xs a c).map f := by
  unfold StepS.strided
  rw [List.length_map, List.map_filterMap]
  refine congrArg (fun g => List.filterMap g _) (funext fun m => ?_)
  rw [List.getElem?_map]
theorem strided_mem {α : Type} {xs : List α} {a c : Nat} {x : α} (h : x ∈ StepS.strided xs a c) : x ∈ xs := by
  unfold StepS.strided at h
  obtain ⟨m, _, h⟩ := List.mem_filterMap.mp h
  exact List.mem_of_getElem? h
def pilesS (cs : List Str) (n : Nat) : List (List Str) := (List.range n).map fun i => StepS.strided cs i n
theorem piles_eq (cs : List Str) (n : Nat) : pilesD cs n = (pilesS cs n).map fun zs => .tup (zs.map .str) := by
  unfold pilesD pilesS
  rw [List.map_map]
  refine List.map_congr_left fun i _ => ?_
  show D.tup _ = D.tup _
  rw [strided_map]
theorem whole_eq (cs : List Str) (n : Nat) : wholeD cs n = (pilesS cs n).flatten.map .str := by
  unfold wholeD
  rw [piles_eq]
  generalize pilesS cs n = L
  induction L with
  | nil => rfl
  | cons z L ih =>
    rw [List.map_cons, List.flatMap_cons, ih, List.flatten_cons, List.map_append]
    rfl
theorem piles_ok {cs : List Str} {n : Nat} (h : rowOk cs = true) : ∀ zs ∈ pilesS cs n, ∀ z ∈ zs, PyData.strOk z = true := fun zs hz z hz' => by
  obtain ⟨i, _, rfl⟩ := List.mem_map.mp hz
  exact okc_strOk (rowOk_all h z (strided_mem hz'))
theorem py_rowsT {W : OW} (L : List (List Str)) : Py W (.tup (L.map fun ns => .tup (ns.map .str))) (.tuple (L.map fun ns => .tuple (ns.map .str))) := .tup (by simp) fun i d p h1 h2 => by
  rw [List.getElem?_map] at h1 h2
  cases e : L[i]? with
  | none => rw [e] at h1; cases h1
  | some z =>
    rw [e] at h1 h2
    cases h1
    cases h2
    exact Py.strsT z
section
variable {P : Program} {w : World} {K : PySem.W.Frag} {mg : Str → Option Value} {base : Heap} {T : Tb} {CD : Addr}
theorem law_d {k : Nat} {cd : Value} {E : XK} {cl : List (Str × Addr)} {A : AE} (L0 : LawK P w K mg base T k CD) {q p : Addr} {near cs : List Str} {n : Nat} {W : OW} (hok : rowOk cs = true) (hl : cs.length ≤ 52) (h1 : 1 ≤ n) (h6 : n ≤ 6) (x8 : Option D)
    (h : SS (FL P w K mg base T k cd E cl) (lawBody.drop 7) ([some (.ptr q), some (.lst deckD), some (.ptr p), some (.lst (near.map .str)), some (.lst (cs.map .str)), some (.int n), some (.lst (pilesD cs n)), some (.tup (wholeD cs n)), x8] ++ List.replicate 14 none) W A) :
    SS (FL P w K mg base T k cd E cl) (lawBody.drop 6) ([some (.ptr q), some (.lst deckD), some (.ptr p), some (.lst (near.map .str)), some (.lst (cs.map .str)), some (.int n), some (.lst (pilesD cs n)), some (.tup (wholeD cs n)), x8] ++ List.replicate 14 none) W A := by
  have hp := piles_ok (n := n) hok
  have hsh : SeqAt.shaped (.tuple ((pilesS cs n).map fun ns => .tuple (ns.map .str))) = true := enc_str.tup.tup.shaped (by decide) hp
  have hw : ∀ z ∈ (pilesS cs n).flatten, PyData.strOk z = true := fun z hz => by
    obtain ⟨zs, h1, h2⟩ := List.mem_flatten.mp hz
    exact hp zs h1 z h2
  have hwl : ((pilesD cs n).flatMap tupsL).length ≤ 100000 := by
    have := whole_len cs n h1 n
    have hpl : (pilesD cs n).length = n := by
      unfold pilesD
      rw [List.length_map, List.length_range]
    rw [List.take_of_length_le (by omega)] at this
    have hb : n * cs.length ≤ 6 * 52 := Nat.mul_le_mul h6 hl
    omega
  refine ss_cons (s1_ifF (et_w (ew_orF (ET.to (et_cmpR (ev_pure L0.dealt (Nat.le_refl _) (by rfl) (ea_cons (ev_var 4 rfl (.inr (.inl rfl)) rfl) (ea_cons (ev_var 5 rfl (.inr (.inl rfl)) rfl) ea_nil)) (.ok _ _ n .lst (by rw [List.length_map]; omega) h1 (by omega))) (ev_tupleL (by rfl) L0.tuple (ev_var 6 rfl (.inl rfl) rfl) .lst) (.neD (by rw [show (List.range n).map (fun i => D.tup (StepS.strided (cs.map D.str) i n)) = pilesD cs n from rfl, piles_eq]; exact py_rowsT _) (by rw [piles_eq]; exact py_rowsT _) hsh hsh rfl)) (by rw [enc_str.tup.tup.eq]; simp)) (ew_orF (ET.to (et_cmpR (ev_pure L0.gathered (Nat.le_refl _) (by rfl) (ea_cons (ev_var 6 rfl (.inl rfl) rfl) ea_nil) (.ok _ _ tupsL .lst (fun x hx => ?_) hwl)) (ev_var 7 rfl (.inl rfl) rfl) (.neD (by rw [show (pilesD cs n).flatMap tupsL = wholeD cs n from rfl, whole_eq]; exact Py.strsT _) (by rw [whole_eq]; exact Py.strsT _) (shaped_strsT hw) (shaped_strsT hw) rfl)) (by rw [enc_str.tup.eq]; simp)) (ew_or1 (et_cmpR (ev_pure L0.check_row (Nat.le_refl _) (by rfl) (ea_cons (ev_var 4 rfl (.inr (.inl rfl)) rfl) ea_nil) (.ok _ cs .lst (ok_short hok (by omega)) hok)) ev_non .ntN0))))) (ss_nil h))
  rw [piles_eq] at hx
  obtain ⟨zs, _, rfl⟩ := List.mem_map.mp hx
  exact .tup
end
end K1
set_option Elab.async false
set_option linter.all false
set_option maxRecDepth 100000
set_option maxHeartbeats 2000000
set_option autoImplicit false
namespace K1
open PySem PySem.Spec PySem.W PyProof.Rows L2 Sh
section
variable {P : Program} {w : World} {K : PySem.W.Frag} {mg : Str → Option Value} {base : Heap} {T : Tb} {CD : Addr}
theorem law_e {k : Nat} {cd : Value} {E : XK} {cl : List (Str × Addr)} {A : AE} (L0 : LawK P w K mg base T k CD) {q p : Addr} {cs : List Str} {W : OW} (hok : rowOk cs = true) (hl : cs.length ≤ 52) (x3 x5 x6 x7 x8 : Option D)
    (h : SS (FL P w K mg base T k cd E cl) (lawBody.drop 9) ([some (.ptr q), some (.lst deckD), some (.ptr p), x3, some (.lst (cs.map .str)), x5, x6, x7, x8, some (.lst ((newOrd cs).map .int)), some (.int (runsTo cs cs.length : Nat))] ++ List.replicate 12 none) W A) :
    SS (FL P w K mg base T k cd E cl) (lawBody.drop 7) ([some (.ptr q), some (.lst deckD), some (.ptr p), x3, some (.lst (cs.map .str)), x5, x6, x7, x8] ++ List.replicate 14 none) W A := by
  have hso : ∀ z ∈ cs, PyData.strOk z = true := fun z hz => okc_strOk (rowOk_all hok z hz)
  have hdo : ∀ z ∈ deckS, PyData.strOk z = true := fun z hz => okc_strOk (deck_okc z hz)
  have hz : (cs.map D.str).length < sizeLine := by
    rw [List.length_map]
    exact Nat.lt_of_le_of_lt hl (by decide)
  refine ss_cons (s1_setLcF (own := [("card", 14)]) 9 (ordF cs) sc_law.nd rfl rfl rfl rfl (by rfl) (by rfl) (ei_list (ev_var 1 rfl (.inr (.inl rfl)) rfl) .lst) .lst (fun x hx => ?_) (by show deckD.length < sizeLine; decide) ?_)
  · obtain ⟨z, hzd, rfl⟩ := List.mem_map.mp hx
    by_cases hm : z ∈ cs
    · have e : ordF cs (.str z) = if decide (z ∈ cs) then some (Sh.D.int (cs.idxOf z : Nat)) else none := rfl
      rw [e]
      exact turn_if (eg_name (fun X h => h) 14 rfl (.inl (by rfl))) (by decide) (et_cmpR (ev_var 14 rfl (.inl (by rfl)) rfl) (ev_var 4 rfl (.inr (.inl (by rfl))) rfl) (SeqF.lst.inS hso (okc_strOk (deck_okc z hzd)))) fun _ => ev_indexS (ev_var 4 rfl (.inr (.inl (by rfl))) rfl) .lst (ev_var 14 rfl (.inl (by rfl)) rfl) hso hm
    · have e : ordF cs (.str z) = if decide (z ∈ cs) then some (Sh.D.int 0) else none := by
        rw [decide_eq_false hm]
        exact if_neg (by rw [decide_eq_false hm]; exact Bool.false_ne_true)
      rw [e]
      refine turn_if (eg_name (fun X h => h) 14 rfl (.inl (by rfl))) (by decide) (et_cmpR (ev_var 14 rfl (.inl (by rfl)) rfl) (ev_var 4 rfl (.inr (.inl (by rfl))) rfl) (SeqF.lst.inS hso (okc_strOk (deck_okc z hzd)))) fun q => absurd (of_decide_eq_true q) hm
  · rw [show deckD.filterMap (ordF cs) = _ from ord_eq cs]
    refine ss_cons (s1_set 10 rfl (.inl rfl) (evr_of (EV.to (d1 := .int (runsTo cs cs.length : Nat)) (ev_len (by rfl) L0.D.len (EN.ev (en_lcF (own := [("k", 20), ("card", 14)]) (pieceF cs) sc_law.nd (by rfl) (ei_enumL (by rfl) L0.enum (ev_var 4 rfl (.inr (.inl rfl)) rfl) .lst) .lst (fun y hy => ?_) ?_)) (.lst .lst)) ?_) h))
    · obtain ⟨j, hj⟩ := List.getElem?_of_mem hy
      obtain ⟨c, hc, rfl⟩ := enumD_get hj
      rw [List.getElem?_map] at hc
      have hjl : j < cs.length := by
        cases e2 : cs[j]? with
        | none => rw [e2] at hc; cases hc
        | some z => exact (List.getElem?_eq_some_iff.mp e2).1
      rw [List.getElem?_eq_getElem hjl] at hc
      cases hc
      have e : pieceF cs (.pr [.int (j : Nat), .str cs[j]]) = if runAt cs j then some (Sh.D.int 1) else none := rfl
      rw [e]
      have g1 : cs.getD j ⟨#[]⟩ = cs[j] := pick_get hjl
      have d1 : cs[j] ∈ deckS := in_deck (rowOk_all hok _ (List.getElem_mem hjl))
      refine turn_if (r := runAt cs j) (eg_pr (fun X h => h) (egs_cons (eg_name (fun X h => h) 20 rfl (.inl (by rfl))) (egs_cons (eg_name (fun X h => h) 14 rfl (.inl (by rfl))) egs_nil)) rfl) (by decide) ?_ fun _ => ev_int
      unfold runAt
      refine et_w (ew_or (ET.to (et_cmpR (ev_var 20 rfl (.inl (by rfl)) rfl) ev_int (.eqI _ _)) (decide_eq_decide.mpr (by omega))) fun hj0 => ew_or1 (ET.to (et_cmpR (ev_indexS (ev_var 1 rfl (.inr (.inl (by rfl))) rfl) (.lst (ds := deckS.map .str)) (ev_var 14 rfl (.inl (by rfl)) rfl) hdo d1) (ev_bin (ev_indexS (z := cs.getD (j - 1) ⟨#[]⟩) (ev_var 1 rfl (.inr (.inl (by rfl))) rfl) (.lst (ds := deckS.map .str)) (ev_ix (ev_var 4 rfl (.inr (.inl (by rfl))) rfl) (ev_bin (ev_var 20 rfl (.inl (by rfl)) rfl) ev_int (.subI _ _)) (.lst .lst ?_)) hdo ?_) ev_int (.addI _ _)) (.neI _ _)) ?_))
      · have hj1 : j ≠ 0 := of_decide_eq_false hj0
        rw [show ((j : Nat) : Int) - 1 = ((j - 1 : Nat) : Int) by omega]
        refine atI_nat ?_
        rw [List.getElem?_map, pick_get (by omega : j - 1 < cs.length), List.getElem?_eq_getElem (by omega)]
        rfl
      · rw [pick_get (by omega : j - 1 < cs.length)]
        exact in_deck (rowOk_all hok _ (List.getElem_mem _))
      · rw [g1]
        congr 1
        exact decide_eq_decide.mpr (by omega)
    · rw [enumD_len]
      exact hz
    · have := piece_len cs cs.length (Nat.le_refl _)
      rw [List.take_of_length_le (by rw [enumD_len, List.length_map]; exact Nat.le_refl _)] at this
      rw [this]
end
end K1
set_option Elab.async false
set_option linter.all false
set_option maxRecDepth 100000
set_option maxHeartbeats 2000000
set_option autoImplicit false
namespace K1
open PySem PySem.Spec PySem.W PyProof.Rows L2 Sh
section
variable {P : Program} {w : World} {K : PySem.W.Frag} {mg : Str → Option Value} {base : Heap} {T : Tb} {CD : Addr}
theorem law_f {k : Nat} {cd : Value} {E : XK} {cl : List (Str × Addr)} {A : AE} (L0 : LawK P w K mg base T k CD) {q p : Addr} {cs : List Str} {W : OW} (x3 x5 x6 x7 x8 x10 : Option D)
    (h : ∀ x12 x13, SS (FL P w K mg base T k cd E cl) (lawBody.drop 11) ([some (.ptr q), some (.lst deckD), some (.ptr p), x3, some (.lst (cs.map .str)), x5, x6, x7, x8, some (.lst ((newOrd cs).map .int)), x10, some (.int (risN (newOrd cs) : Nat)), x12, x13] ++ List.replicate 9 none) W A) :
    SS (FL P w K mg base T k cd E cl) (lawBody.drop 9) ([some (.ptr q), some (.lst deckD), some (.ptr p), x3, some (.lst (cs.map .str)), x5, x6, x7, x8, some (.lst ((newOrd cs).map .int)), x10] ++ List.replicate 12 none) W A := by
  refine ss_cons (s1_par 11 12 rfl rfl (by decide) rfl rfl (ear_cons (evr_of ev_int (ear_cons (evr_of (ev_len (by rfl) L0.D.len (ev_var 4 rfl (.inr (.inl rfl)) rfl) (.lst .lst)) (ear_nil ⟨_, _, rfl, ?_⟩))))) (fun env he => by
    obtain ⟨a1, a2, a3, a4, a5, a6, a7, a8, a9⟩ := env
    cases he
    rfl))
  refine ss_cons (s1_for (ei_list (ev_var 9 rfl (.inl rfl) rfl) .lst) (fun i Γ' W' => (∃ (r : Nat) (last : Int) (x13 : Option D), Γ' = [some (.ptr q), some (.lst deckD), some (.ptr p), x3, some (.lst (cs.map .str)), x5, x6, x7, x8, some (.lst ((newOrd cs).map .int)), x10, some (.int (r : Nat)), some (.int last), x13] ++ List.replicate 9 none ∧ r + falls last ((newOrd cs).drop i) = risN (newOrd cs)) ∧ W' = W) ⟨⟨0, _, _, rfl, ?_⟩, rfl⟩ (fun _ _ _ _ => .inl rfl) (fun i d Γ' W' hd hI => ?_) (fun Γ' W' hI => ?_))
  · rw [List.length_map, List.drop_zero, Nat.zero_add]
    exact falls_ris (newOrd_lt cs)
  · obtain ⟨⟨r, last, x13, rfl, hr⟩, rfl⟩ := hI
    rw [List.getElem?_map] at hd
    cases e : (newOrd cs)[i]? with
    | none => rw [e] at hd; cases hd
    | some a =>
      rw [e] at hd
      cases hd
      have hi := (List.getElem?_eq_some_iff.mp e).1
      have ed : (newOrd cs).drop i = a :: (newOrd cs).drop (i + 1) := by
        rw [List.drop_eq_getElem_cons hi, (List.getElem?_eq_some_iff.mp e).2]
      rw [ed] at hr
      unfold falls at hr
      refine ⟨_, _, eg_name (fun X h => h.toG) 13 rfl (.inl rfl), ss_one (s1_par 11 12 rfl rfl (by decide) rfl rfl (ear_cons (evr_of (EV.to (d1 := .int ((r + if a < last then 1 else 0 : Nat) : Nat)) (ev_bin (ev_var 11 rfl (.inl rfl) rfl) (ev_intB (by rfl) L0.int (ev_cmpR (ev_var 13 rfl (.inl rfl) rfl) (ev_var 12 rfl (.inl rfl) rfl) (.ltI _ _))) (.addI _ _)) ?_) (ear_cons (evr_of (ev_var 13 rfl (.inl rfl) rfl) (ear_nil ⟨_, _, rfl, ⟨_, a, some (.int a), rfl, ?_⟩, rfl⟩))))) (fun env he => by
        obtain ⟨a1, a2, a3, a4, a5, a6, a7, a8, a9⟩ := env
        cases he
        rfl))⟩
      · congr 1
        by_cases q : a < last
        · rw [decide_eq_true q, if_pos q, if_pos rfl]
          omega
        · rw [decide_eq_false q, if_neg q, if_neg Bool.false_ne_true]
          omega
      · omega
  · obtain ⟨⟨r, last, x13, rfl, hr⟩, rfl⟩ := hI
    rw [List.length_map, List.drop_length] at hr
    have hr : r = risN (newOrd cs) := hr
    rw [hr]
    exact h _ _
end
end K1
set_option Elab.async false
set_option linter.all false
set_option maxRecDepth 100000
set_option maxHeartbeats 2000000
set_option autoImplicit false
namespace K1
open PySem PySem.Spec PySem.W PyProof.Rows L2 Sh
section
variable {P : Program} {w : World} {K : PySem.W.Frag} {mg : Str → Option Value} {base : Heap} {T : Tb} {CD : Addr}
theorem law_g {k : Nat} {cd : Value} {E : XK} {cl : List (Str × Addr)} {A : AE} (L0 : LawK P w K mg base T k CD) {q p : Addr} {cs : List Str} {W : OW} (hok : rowOk cs = true) (hl : cs.length ≤ 52) (x3 x5 x6 x7 x8 x12 x13 : Option D)
    (h : SS (FL P w K mg base T k cd E cl) (lawBody.drop 12) ([some (.ptr q), some (.lst deckD), some (.ptr p), x3, some (.lst (cs.map .str)), x5, x6, x7, x8, some (.lst ((newOrd cs).map .int)), some (.int (runsTo cs cs.length : Nat)), some (.int (risN (newOrd cs) : Nat)), x12, x13] ++ List.replicate 9 none) W A) :
    SS (FL P w K mg base T k cd E cl) (lawBody.drop 11) ([some (.ptr q), some (.lst deckD), some (.ptr p), x3, some (.lst (cs.map .str)), x5, x6, x7, x8, some (.lst ((newOrd cs).map .int)), some (.int (runsTo cs cs.length : Nat)), some (.int (risN (newOrd cs) : Nat)), x12, x13] ++ List.replicate 9 none) W A := by
  have hsh := ok_short hok (by omega)
  refine ss_cons (s1_ifF (et_w (ew_orF (ET.to (et_cmpR (EN.ev (en_list (by rfl) L0.list (ev_pure L0.new_order (Nat.le_refl _) (by rfl) (ea_cons (ev_var 4 rfl (.inr (.inl rfl)) rfl) ea_nil) (.ok _ cs .lst hsh hok)) (.tup _))) (ev_var 9 rfl (.inl rfl) rfl) (.neD (Py.intsL _) (Py.intsL _) (shaped_intsL _) (shaped_intsL _) rfl)) (by rw [enc_int.list.eq]; simp)) (ew_orF (ET.to (et_cmpR (ev_pure L0.runs_up (Nat.le_refl _) (by rfl) (ea_cons (ev_var 4 rfl (.inr (.inl rfl)) rfl) ea_nil) (.ok cs hsh hok)) (ev_var 10 rfl (.inl rfl) rfl) (.neI _ _)) (by simp)) (ew_or1 (ET.to (et_cmpR (ev_pure L0.rising (Nat.le_refl _) (by rfl) (ea_cons (ev_var 4 rfl (.inr (.inl rfl)) rfl) ea_nil) (.ok _ cs .lst hsh hok)) (ev_var 11 rfl (.inl rfl) rfl) (.neI _ _)) (by simp)))))) (ss_nil h))
end
end K1
set_option Elab.async false
set_option linter.all false
set_option maxRecDepth 100000
set_option maxHeartbeats 2000000
set_option autoImplicit false
namespace K1
open PySem PySem.Spec PySem.W PyProof.Rows L2 Sh
theorem red_eq (b : Nat) (h : b ∈ suitsL) : decide (b ∈ ("DH" : Str).cps.toList) = decide ((⟨#[b]⟩ : Str) ∈ (["D", "H"] : List Str)) := (show ∀ b ∈ suitsL, decide (b ∈ ("DH" : Str).cps.toList) = decide ((⟨#[b]⟩ : Str) ∈ (["D", "H"] : List Str)) by decide) b h
section
variable {P : Program} {w : World} {K : PySem.W.Frag} {mg : Str → Option Value} {base : Heap} {T : Tb} {CD : Addr}
theorem law_h {k : Nat} {cd : Value} {E : XK} {cl : List (Str × Addr)} {A : AE} (L0 : LawK P w K mg base T k CD) {q p : Addr} {cs : List Str} {W : OW} (hok : rowOk cs = true) (x3 x5 x6 x7 x8 x9 x10 x11 x12 x13 : Option D)
    (h : ∀ x14, SS (FL P w K mg base T k cd E cl) (lawBody.drop 13) ([some (.ptr q), some (.lst deckD), some (.ptr p), x3, some (.lst (cs.map .str)), x5, x6, x7, x8, x9, x10, x11, x12, x13, x14] ++ List.replicate 8 none) W A) :
    SS (FL P w K mg base T k cd E cl) (lawBody.drop 12) ([some (.ptr q), some (.lst deckD), some (.ptr p), x3, some (.lst (cs.map .str)), x5, x6, x7, x8, x9, x10, x11, x12, x13] ++ List.replicate 9 none) W A := by
  refine ss_cons (s1_for (ei_list (ev_var 4 rfl (.inr (.inl rfl)) rfl) .lst) (fun i Γ' W' => (∃ x14, Γ' = [some (.ptr q), some (.lst deckD), some (.ptr p), x3, some (.lst (cs.map .str)), x5, x6, x7, x8, x9, x10, x11, x12, x13, x14] ++ List.replicate 8 none) ∧ W' = W) ⟨⟨none, rfl⟩, rfl⟩ (fun _ _ _ _ => .inl rfl) (fun i d Γ' W' hd hI => ?_) (fun Γ' W' hI => ?_))
  · obtain ⟨⟨x14, rfl⟩, rfl⟩ := hI
    obtain ⟨z, hz, rfl⟩ := List.mem_map.mp (List.mem_of_getElem? hd)
    have hzo := rowOk_all hok z hz
    obtain ⟨a, b, e, h1, h2⟩ := okc_two hzo
    have hzl := okc_len hzo
    have hzs : z.length ≤ sizeLine := Nat.le_trans (Nat.le_of_eq hzl) (by decide)
    obtain ⟨rest, hocc⟩ := occ_rank h1
    have hr : rkN z = ranksL.idxOf a + 1 := by unfold rkN; rw [e]; rfl
    have hb : redB z = decide (b ∈ ("DH" : Str).cps.toList) := by unfold redB; rw [e]; rfl
    have hbo : PyData.strOk (⟨#[b]⟩ : Str) = true := (show ∀ b ∈ suitsL, PyData.strOk (⟨#[b]⟩ : Str) = true by decide +kernel) b h2
    refine ⟨_, _, eg_name (fun X h => h.toG) 14 rfl (.inl rfl), ss_one (s1_ifF (et_w (ew_orF (et_cmpR (ev_pure L0.check_card (Nat.le_refl _) (by rfl) (ea_cons (ev_var 14 rfl (.inl rfl) rfl) ea_nil) (.ok z (by omega) hzo)) ev_non .ntN0) (ew_orF (ET.to (et_cmpR (ev_pure L0.rank_of (Nat.le_refl _) (by rfl) (ea_cons (ev_var 14 rfl (.inl rfl) rfl) ea_nil) (.ok z hzo)) (ev_bin (ev_sindex ev_str (ev_ix (ev_var 14 rfl (.inl rfl) rfl) ev_int (.str hzs (c := a) (by rw [e]; rfl))) hocc) ev_int (.addI _ _)) (.neI _ _)) (by rw [hr]; simp)) (ew_or1 (ET.to (et_cmpR (ev_pure L0.is_red (Nat.le_refl _) (by rfl) (ea_cons (ev_var 14 rfl (.inl rfl) rfl) ea_nil) (.ok z hzo)) (ev_cmpR (ev_ix (ev_var 14 rfl (.inl rfl) rfl) ev_int (.str hzs (c := b) (by rw [e]; rfl))) (EN.ev (en_lst (ds := (["D", "H"] : List Str).map .str) (ea_cons ev_str (ea_cons ev_str ea_nil)) (by decide))) (SeqF.lst.inS (by decide +kernel) hbo)) (.neB _ _)) (by rw [hb, red_eq b h2]; simp)))))) (ss_nil ⟨⟨_, rfl⟩, rfl⟩))⟩
  · obtain ⟨⟨x14, rfl⟩, rfl⟩ := hI
    exact h x14
end
end K1
set_option Elab.async false
set_option linter.all false
set_option maxRecDepth 100000
set_option maxHeartbeats 2000000
set_option autoImplicit false
namespace K1
open PySem PySem.Spec PySem.W PyProof.Rows L2 Sh
def fewB (z : Str) : Bool := decide ((lrkN z : Int) < 6) || decide ((⟨#[suitOf z]⟩ : Str) = "C")
def highB (z : Str) : Bool := decide ((⟨#[suitOf z]⟩ : Str) = "H") || decide (z.cps.toList.getD 0 0 ∈ ("AK" : Str).cps.toList)
theorem few_len : 7 ≤ (deckS.filter fewB).length ∧ 7 ≤ (deckS.filter highB).length := by decide +kernel
theorem few_ok (f : Str → Bool) : rowOk (deckS.filter f) = true := rowOk_sub deck_ok List.filter_sublist
theorem filt_le (f : Str → Bool) : (deckS.filter f).length ≤ 52 := by
  have := List.length_filter_le f deckS
  rw [deck_len] at this
  exact this
theorem mixS_len (s : Dice) {xs : List Str} (h : rowOk xs = true) {m : Int} (h5 : 5 ≤ m) (h7 : m ≤ 7) (hx : 7 ≤ xs.length) : rowOk (mixS s xs (mixM m xs.length)).2.2 = true ∧ 5 ≤ (mixS s xs (mixM m xs.length)).2.2.length ∧ (mixS s xs (mixM m xs.length)).2.2.length ≤ 7 := by
  obtain ⟨h1, h2⟩ := mixS_ok s h (i := mixM m xs.length) (by unfold mixM; omega)
  refine ⟨h1, ?_, ?_⟩ <;> rw [h2] <;> unfold mixM <;> omega
theorem three_atP {Pr : List Str → Prop} {v : Int} {a b c : List Str} (h : 0 ≤ v ∧ v < 3) (ha : Pr a) (hb : Pr b) (hc : Pr c) : ∃ cs : List Str, Pr cs ∧ L2.atI [D.lst (a.map .str), .lst (b.map .str), .lst (c.map .str)] v = some (.lst (cs.map .str)) := by
  have : v = ((0 : Nat) : Int) ∨ v = ((1 : Nat) : Int) ∨ v = ((2 : Nat) : Int) := by omega
  rcases this with e | e | e
  · exact ⟨a, ha, by rw [e]; exact atI_nat rfl⟩
  · exact ⟨b, hb, by rw [e]; exact atI_nat rfl⟩
  · exact ⟨c, hc, by rw [e]; exact atI_nat rfl⟩
section
variable {P : Program} {w : World} {K : PySem.W.Frag} {mg : Str → Option Value} {base : Heap} {T : Tb} {CD : Addr}
theorem law_i {k : Nat} {cd : Value} {E : XK} {cl : List (Str × Addr)} {A : AE} (L0 : LawK P w K mg base T k CD) {q L p : Addr} {s : Dice} {W0 : OW} (x3 x4 x5 x6 x7 x8 x9 x10 x11 x12 x13 x14 : Option D)
    (h : ∀ (s' : Dice) (ss : List Str), rowOk ss = true → 5 ≤ ss.length → ss.length ≤ 7 → SS (FL P w K mg base T k cd E cl) (lawBody.drop 15) ([some (.ptr q), some (.lst deckD), some (.ptr p), x3, x4, x5, x6, x7, x8, x9, x10, x11, x12, x13, x14, some (.lst ((deckS.filter fewB).map .str)), some (.lst (ss.map .str))] ++ List.replicate 6 none) (W3 L p s' W0) A) :
    SS (FL P w K mg base T k cd E cl) (lawBody.drop 13) ([some (.ptr q), some (.lst deckD), some (.ptr p), x3, x4, x5, x6, x7, x8, x9, x10, x11, x12, x13, x14] ++ List.replicate 8 none) (W3 L p s W0) A := by
  have card : ∀ z ∈ deckS, ∃ a b rest, z.cps.toList = [a, b] ∧ z.length ≤ sizeLine ∧ Builtin.Str.occurrences "A23456789TJQK" ⟨#[a]⟩ 0 ("A23456789TJQK" : Str).length 1 = lrkN z :: rest ∧ suitOf z = b := fun z hz => by
    obtain ⟨a, b, e, h1, h2⟩ := okc_two (deck_okc z hz)
    obtain ⟨rest, hocc⟩ := occ_rank h1
    refine ⟨a, b, rest, e, Nat.le_trans (Nat.le_of_eq (okc_len (deck_okc z hz))) (by decide), ?_, ?_⟩
    · rw [hocc]
      unfold lrkN
      rw [e]
      rfl
    · unfold suitOf
      rw [e]
      rfl
  refine ss_cons (s1_setLcF (own := [("card", 14)]) 15 (fun x => if fewB (strD x) then some x else none) sc_law.nd rfl rfl rfl rfl (by rfl) (by rfl) (ei_list (ev_var 1 rfl (.inr (.inl rfl)) rfl) .lst) .lst (fun x hx => ?_) (by show deckD.length < sizeLine; decide) ?_)
  · obtain ⟨z, hzd, rfl⟩ := List.mem_map.mp hx
    obtain ⟨a, b, rest, e, hzs, hocc, hsu⟩ := card z hzd
    refine turn_if (r := fewB z) (eg_name (fun X h => h) 14 rfl (.inl (by rfl))) (by decide) ?_ fun _ => ev_var 14 rfl (.inl (by rfl)) rfl
    unfold fewB
    exact et_w (ew_or (et_cmpR (ev_sindex ev_str (ev_ix (ev_var 14 rfl (.inl (by rfl)) rfl) ev_int (.str hzs (c := a) (by rw [e]; rfl))) hocc) ev_int (.ltI _ _)) fun _ => ew_or1 (et_cmpR (ev_ix (ev_var 14 rfl (.inl (by rfl)) rfl) ev_int (.str hzs (c := suitOf z) (by rw [e, hsu]; rfl))) ev_str (.eqS _ _)))
  · rw [show deckD.filterMap (fun x => if fewB (strD x) then some x else none) = _ from filt_strs fewB deckS]
    have r3 := rollV_in s (n := 3) (by decide)
    have r3' := rollV_in (rollN s 3) (n := 3) (by decide)
    obtain ⟨xs, ⟨q1, q2, q3⟩, hat⟩ := three_atP (Pr := fun cs => rowOk cs = true ∧ cs.length ≤ 52 ∧ 7 ≤ cs.length) r3 (a := deckS) (b := deckS.filter fewB) (c := deckS.filter highB) ⟨deck_ok, by rw [deck_len]; omega, by rw [deck_len]; omega⟩ ⟨few_ok _, filt_le _, few_len.1⟩ ⟨few_ok _, filt_le _, few_len.2⟩
    obtain ⟨m1, m2, m3⟩ := mixS_len (rollN (rollN s 3) 3) q1 (m := 5 + rollV (rollN s 3) 3) (by omega) (by omega) q3
    refine ss_cons (s1_set 16 rfl (.inr rfl) (evr_of (mix_ev (xs := xs) (m := 5 + rollV (rollN s 3) 3) L0.mixed rfl (.inl rfl) rfl (by rfl) (by omega) (by omega) (by omega) (ea_cons (ev_ix (EN.ev (en_lst (ea_cons (ev_var 1 rfl (.inr (.inl rfl)) rfl) (ea_cons (ev_var 15 rfl (.inl rfl) rfl) (ea_cons (EN.ev (EN.to (en_lcF (own := [("card", 14)]) (fun x => if highB (strD x) then some x else none) sc_law.nd (by rfl) (ei_list (ev_var 1 rfl (.inr (.inl rfl)) rfl) .lst) .lst (fun x hx => ?_) (by show deckD.length < sizeLine; decide)) (filt_strs highB deckS))) ea_nil))) (Nat.le_of_ble_eq_true rfl))) (roll_law L0.roll rfl (.inl rfl) rfl (by rfl) (by decide) (by decide)) (.lst .lst hat)) (ea_cons (ev_bin ev_int (roll_law L0.roll rfl (.inl rfl) rfl (by rfl) (by decide) (by decide)) (.addI _ _)) ea_nil))) (h _ _ m1 m2 m3)))
    obtain ⟨z, hzd, rfl⟩ := List.mem_map.mp hx
    obtain ⟨a, b, rest, e, hzs, hocc, hsu⟩ := card z hzd
    refine turn_if (r := highB z) (eg_name (fun X h => h) 14 rfl (.inl (by rfl))) (by decide) ?_ fun _ => ev_var 14 rfl (.inl (by rfl)) rfl
    unfold highB
    have e0 : z.cps.toList.getD 0 0 = a := by rw [e]; rfl
    rw [e0]
    exact et_w (ew_or (et_cmpR (ev_ix (ev_var 14 rfl (.inl (by rfl)) rfl) ev_int (.str hzs (c := suitOf z) (by rw [e, hsu]; rfl))) ev_str (.eqS _ _)) fun _ => ew_or1 (et_cmpR (ev_ix (ev_var 14 rfl (.inl (by rfl)) rfl) ev_int (.str hzs (c := a) (by rw [e]; rfl))) ev_str (.inS _ _)))
end
end K1
set_option Elab.async false
set_option linter.all false
set_option maxRecDepth 100000
set_option maxHeartbeats 2000000
set_option autoImplicit false
namespace K1
open PySem PySem.Spec PySem.W PyProof.Rows L2 Sh
section
variable {P : Program} {w : World} {K : PySem.W.Frag} {mg : Str → Option Value} {base : Heap} {T : Tb} {CD : Addr}
/-- the slots behind some -/
abbrev G17 (q p : Addr) (x : List (Option D)) (ss : List Str) (r : List (Option D)) : Ga := [some (.ptr q), some (.lst deckD), some (.ptr p)] ++ x ++ [some (.lst (ss.map .str))] ++ r
theorem kinds_str : ∀ z ∈ kindsL, PyData.strOk z = true := kinds_ok
theorem law_j {k : Nat} {cd : Value} {E : XK} {cl : List (Str × Addr)} {A : AE} (L0 : LawK P w K mg base T k CD) {q p : Addr} {ss : List Str} {W : OW} (hok : rowOk ss = true) (h5 : 5 ≤ ss.length) (h7 : ss.length ≤ 7) (x3 x4 x5 x6 x7 x8 x9 x10 x11 x12 x13 x14 x15 : Option D)
    (h : SS (FL P w K mg base T k cd E cl) (lawBody.drop 17) ([some (.ptr q), some (.lst deckD), some (.ptr p), x3, x4, x5, x6, x7, x8, x9, x10, x11, x12, x13, x14, x15, some (.lst (ss.map .str)), some (.lst (kindsL.map .str))] ++ List.replicate 5 none) W A) :
    SS (FL P w K mg base T k cd E cl) (lawBody.drop 15) ([some (.ptr q), some (.lst deckD), some (.ptr p), x3, x4, x5, x6, x7, x8, x9, x10, x11, x12, x13, x14, x15, some (.lst (ss.map .str))] ++ List.replicate 6 none) W A := by
  have hc : cutD (ss.map D.str) none (some 5) = (ss.take 5).map D.str := by
    rw [show (5 : Int) = ((5 : Nat) : Int) from rfl, cutD_to, List.map_take]
  have ht : rowOk (ss.take 5) = true := rowOk_sub hok (List.take_sublist _ _)
  have ht5 : (ss.take 5).length = 5 := by rw [List.length_take]; omega
  refine ss_cons (s1_ifF (ET.to (et_cmpR (ev_pure L0.hand_kind (Nat.le_refl _) (by rfl) (ea_cons (EN.ev (EN.to (en_slice (ev_var 16 rfl (.inr (.inl rfl)) rfl) eo_none (eo_some ev_int) .lst) hc)) ea_nil) (.ok _ (ss.take 5) .lst (ok_short ht (by omega)) ht ht5)) (ev_pure L0.kind (Nat.le_refl _) (by rfl) (ea_cons (EN.ev (EN.to (en_slice (ev_var 16 rfl (.inr (.inl rfl)) rfl) eo_none (eo_some ev_int) .lst) hc)) ea_nil) (.ok _ (ss.take 5) .lst ht ht5)) (.neS _ _)) (by simp)) (ss_nil ?_))
  exact ss_cons (s1_set 17 rfl (.inr rfl) (evr_of (EN.ev (en_lst (ds := kindsL.map .str) (ea_cons ev_str (ea_cons ev_str (ea_cons ev_str (ea_cons ev_str (ea_cons ev_str (ea_cons ev_str (ea_cons ev_str (ea_cons ev_str (ea_cons ev_str ea_nil))))))))) (Nat.le_of_ble_eq_true rfl))) h))
end
end K1
set_option Elab.async false
set_option linter.all false
set_option maxRecDepth 100000
set_option maxHeartbeats 2000000
set_option autoImplicit false
namespace K1
open PySem PySem.Spec PySem.W PyProof.Rows L2 Sh
def rowOfD (x : D) : List Nat := (tupL x).map fun d => (Sh.intD d).toNat
theorem rowOf_row (r : List Nat) : rowOfD (rowD r) = r := by
  unfold rowOfD rowD riL tupL
  simp only [List.map_map]
  have : ((fun d => (Sh.intD d).toNat) ∘ D.int ∘ fun (i : Nat) => (i : Int)) = id := funext fun i => rfl
  rw [this, List.map_id]
theorem fives_len (n : Nat) (h : n ≤ 7) : (fives n).length ≤ 128 := by
  unfold fives
  exact Nat.le_trans (List.length_filter_le _ _) (Nat.le_trans (fivesAt_len n) (Nat.pow_le_pow_right (by decide) h))
section
variable {P : Program} {w : World} {K : PySem.W.Frag} {mg : Str → Option Value} {base : Heap} {T : Tb} {CD : Addr}
theorem law_k {k : Nat} {cd : Value} {E : XK} {cl : List (Str × Addr)} {A : AE} (L0 : LawK P w K mg base T k CD) {q p : Addr} {ss : List Str} {W : OW} (hok : rowOk ss = true) (h5 : 5 ≤ ss.length) (h7 : ss.length ≤ 7) (x3 x4 x5 x6 x7 x8 x9 x10 x11 x12 x13 x14 x15 : Option D)
    (h : ∀ b, IsBest ss b → A.nx ([some (.ptr q), some (.lst deckD), some (.ptr p), x3, x4, x5, x6, x7, x8, x9, x10, x11, x12, x13, x14, x15, some (.lst (ss.map .str)), some (.lst (kindsL.map .str)), some (pairDD ss b)] ++ List.replicate 4 none) W) :
    SS (FL P w K mg base T k cd E cl) (lawBody.drop 17) ([some (.ptr q), some (.lst deckD), some (.ptr p), x3, x4, x5, x6, x7, x8, x9, x10, x11, x12, x13, x14, x15, some (.lst (ss.map .str)), some (.lst (kindsL.map .str))] ++ List.replicate 5 none) W A := by
  obtain ⟨r0, rs, hf⟩ := fives_ne h5
  have hpick : ∀ r, Row5 ss.length r → (pickS ss r).length = 5 ∧ rowOk (pickS ss r) = true := fun r hr => ⟨by unfold pickS; rw [List.length_map, hr.1], pick_ok hok hr.2.1 hr.2.2⟩
  have hget : ∀ r, Row5 ss.length r → ∀ i ∈ r, (ss.map D.str)[i]? = some (.str (ss.getD i ⟨#[]⟩)) := fun r hr i hi => by
    rw [List.getElem?_map, List.getD_eq_getElem?_getD, List.getElem?_eq_getElem (hr.2.2 i hi)]
    rfl
  have hpm : ∀ r, ((riL r).map D.int).map (fun x => D.str (ss.getD (Sh.intD x).toNat ⟨#[]⟩)) = (pickS ss r).map D.str := fun r => by
    rw [map_ints (fun j => D.str (ss.getD j.toNat ⟨#[]⟩))]
    unfold riL pickS
    rw [List.map_map, List.map_map]
    rfl
  refine ss_cons (s1_set 18 rfl (.inl rfl) (evr_minL (ds := (r0 :: rs).map (pairDD ss)) (x := pairP ss r0) (ps := rs.map (pairP ss)) (by rfl) L0.min (EN.ev (EN.to (en_lcM (own := [("row", 22)]) (fun x => Sh.D.tup [.int (kix ss (rowOfD x)), x]) sc_law.nd (by rfl) (ei_list (ev_pure L0.fives (Nat.le_refl _) (by rfl) (ea_cons (ev_var 16 rfl (.inr (.inl rfl)) rfl) ea_nil) (.ok _ (ss.map .str) .lst (by rw [List.length_map]; exact h7))) .lst) .lst (fun x hx => ?_) ?_) ?_)) (pairs_py ss (r0 :: rs)) (pairs_alike ss (r0 :: rs)) (pairs_depth ss (r0 :: rs)) fun i d h1 h2 => ?_))
  · rw [List.length_map] at hx
    obtain ⟨r, hr, rfl⟩ := List.mem_map.mp hx
    have hr5 := (fives_mem _ _).mp hr
    obtain ⟨g1, g2⟩ := hpick r hr5
    rw [rowOf_row]
    refine turn_map (eg_name (fun X h => h) 22 rfl (.inl (by rfl))) (by decide) (ev_tup (ea_cons (ev_indexS (zs := kindsL) (ev_var 17 rfl (.inr (.inl (by rfl))) rfl) .lst (ev_pure L0.kind (Nat.le_refl _) (by rfl) (ea_cons (EN.ev (EN.to (en_lcM (own := [("k", 20)]) (fun x => Sh.D.str (ss.getD (Sh.intD x).toNat ⟨#[]⟩)) sc_law.nd (by rfl) (ei_tup (ev_var 22 rfl (.inl (by rfl)) rfl)) trivial (fun y hy => ?_) ?_) (hpm r))) ea_nil) (.ok _ (pickS ss r) .lst g2 g1)) kinds_ok (kindS_mem _)) (ea_cons (ev_var 22 rfl (.inl (by rfl)) rfl) ea_nil)) (Nat.le_of_ble_eq_true rfl))
    · obtain ⟨j, hj, rfl⟩ := List.mem_map.mp hy
      obtain ⟨i, hi, rfl⟩ := List.mem_map.mp hj
      refine turn_map (eg_name (fun X h => h) 20 rfl (.inl (by rfl))) (by decide) (ev_ix (ev_var 16 rfl (.inr (.inl (by rfl))) rfl) (ev_var 20 rfl (.inl (by rfl)) rfl) (.lst .lst (atI_nat ?_)))
      exact hget r hr5 i hi
    · rw [row_len, hr5.1]
      decide
  · rw [List.length_map, List.length_map]
    exact Nat.lt_of_le_of_lt (fives_len _ h7) (by decide)
  · rw [List.length_map, hf, List.map_map]
    refine List.map_congr_left fun r _ => ?_
    show Sh.D.tup [.int (kix ss (rowOfD (rowD r))), rowD r] = _
    rw [rowOf_row]
    rfl
  · obtain ⟨b, hb, rfl⟩ := min_best h5 hf h1 h2
    obtain ⟨g1, g2⟩ := hpick b hb.1
    have hix : L2.atI (kindsL.map Sh.D.str) (kix ss b) = some (.str (kindS (pickS ss b))) := atI_nat (by
      rw [List.getElem?_map, (idx_first (kindS_mem (pickS ss b))).1]
      rfl)
    have hstr : ∀ z ∈ pickS ss b, PyData.strOk z = true := fun z hz => okc_strOk (rowOk_all g2 z hz)
    have hko : PyData.strOk (kindS (pickS ss b)) = true := kinds_ok _ (kindS_mem _)
    have hsh : SeqAt.shaped (.tuple [.str (kindS (pickS ss b)), .tuple ((pickS ss b).map .str)]) = true := (enc_str.pair enc_str.tup).shaped (by decide) (a := (kindS (pickS ss b), pickS ss b)) ⟨hko, hstr⟩
    have hself : (!PyData.eqv (.tuple [.str (kindS (pickS ss b)), .tuple ((pickS ss b).map .str)]) (.tuple [.str (kindS (pickS ss b)), .tuple ((pickS ss b).map .str)])) = false := by
      have := (enc_str.pair enc_str.tup).eq (kindS (pickS ss b), pickS ss b) (kindS (pickS ss b), pickS ss b)
      rw [show PyData.eqv (.tuple [.str (kindS (pickS ss b)), .tuple ((pickS ss b).map .str)]) (.tuple [.str (kindS (pickS ss b)), .tuple ((pickS ss b).map .str)]) = _ from this]
      simp
    refine ss_one (s1_ifF (et_cmpR (ev_pure L0.best_five (Nat.le_refl _) (by rfl) (ea_cons (ev_var 16 rfl (.inr (.inl rfl)) rfl) ea_nil) (.ok _ ss .lst (ok_short hok (by omega)) hok h5 h7 b hb)) (ev_tup (ea_cons (ev_ix (ev_var 17 rfl (.inr (.inl rfl)) rfl) (ev_ix (ev_var 18 rfl (.inl rfl) rfl) ev_int (.tup (atI_nat (j := 0) rfl))) (.lst .lst hix)) (ea_cons (ev_tupleL (by rfl) L0.tuple (EN.ev (EN.to (en_lcM (own := [("k", 20)]) (fun x => Sh.D.str (ss.getD (Sh.intD x).toNat ⟨#[]⟩)) sc_law.nd (by rfl) (ei_tup (ev_ix (ev_var 18 rfl (.inl rfl) rfl) ev_int (.tup (atI_nat (j := 1) rfl)))) trivial (fun y hy => ?_) ?_) (hpm b))) .lst) ea_nil)) (Nat.le_of_ble_eq_true rfl)) (.neD (py_tup2 (.str _) (Py.strsT _)) (py_tup2 (.str _) (Py.strsT _)) hsh hsh hself)) (ss_nil (h b hb)))
    · obtain ⟨j, hj, rfl⟩ := List.mem_map.mp hy
      obtain ⟨i, hi, rfl⟩ := List.mem_map.mp hj
      refine turn_map (eg_name (fun X h => h) 20 rfl (.inl (by rfl))) (by decide) (ev_ix (ev_var 16 rfl (.inr (.inl (by rfl))) rfl) (ev_var 20 rfl (.inl (by rfl)) rfl) (.lst .lst (atI_nat ?_)))
      exact hget b hb.1 i hi
    · rw [row_len, hb.1.1]
      decide
end
end K1
set_option Elab.async false
set_option linter.all false
set_option maxRecDepth 100000
set_option maxHeartbeats 2000000
set_option autoImplicit false
namespace K1
open PySem PySem.Spec PySem.W PyProof.Rows L2 Sh
def AllB (p : Expr → Prop) : List Expr → Prop
  | [] => True
  | e :: es => p e ∧ AllB p es
theorem allB_mem {p : Expr → Prop} : ∀ {es : List Expr}, AllB p es → ∀ e ∈ es, p e
  | [], _, e, he => by cases he
  | x :: es, h, e, he => by
    rcases List.mem_cons.mp he with rfl | he
    · exact h.1
    · exact allB_mem h.2 e he
theorem lamBs_of {sc : Scope} : ∀ {es : List Expr}, (∀ e ∈ es, ∃ pa bd sc' lp, e = .Lambda pa bd sc' lp ∧ LamB sc sc' pa bd) → LamBs sc es
  | [], _ => trivial
  | e :: es, h => by
    refine ⟨?_, ?_, lamBs_of fun x hx => h x (List.mem_cons_of_mem _ hx)⟩
    · obtain ⟨pa, bd, sc', lp, e1, lb⟩ := h e List.mem_cons_self
      exact ⟨pa, bd, sc', lp, e1, lb⟩
    · obtain ⟨pa, bd, sc', lp, rfl, lb⟩ := h e List.mem_cons_self
      intro env
      rfl
theorem LawK.mono {P : Program} {w : World} {K : PySem.W.Frag} {mg : Str → Option Value} {base : Heap} {T : Tb} {CD : Addr} {k j : Nat} (L : LawK P w K mg base T k CD) (h : k ≤ j) : LawK P w K mg base T j CD :=
  ⟨L.D, L.Kd, L.tuple, L.list, L.range, L.int, L.min, L.enum, L.roll.up h, L.mixed.up h, L.deck.up h, L.rounds.imp h, L.kind.up h, L.fives.up h, L.told, L.check_card.up h, L.full_deck.up h, L.rank_of.up h, L.is_red.up h, L.check_row.up h, L.dealt.up h, L.gathered.up h, L.new_order.up h, L.runs_up.up h, L.rising.up h, L.hand_kind.up h, L.best_five.up h⟩
section
variable {P : Program} {w : World} {K : PySem.W.Frag} {mg : Str → Option Value} {base : Heap} {T : Tb} {CD : Addr}
theorem law_body {k : Nat} {cd : Value} {E : XK} {cl : List (Str × Addr)} {A : AE} (L0 : LawK P w K mg base T k CD) {q L p : Addr} {s : Dice} {W0 : OW}
    (h : ∀ (Γ : Ga) (s' : Dice), Γ.length = 23 → Γ[0]? = some (some (.ptr q)) → Γ[1]? = some (some (.lst deckD)) → A.nx Γ (W3 L p s' W0)) :
    SS (FL P w K mg base T k cd E cl) lawBody (GL [.ptr q, .lst deckD, .ptr p]) (W3 L p s W0) A :=
  law_a L0 fun s' near cs n hok hl h1 h6 => law_b L0 hl h1 h6 <| law_c L0 hl h1 h6 fun x8 => law_d L0 hok hl h1 h6 x8 <| law_e L0 hok hl _ _ _ _ _ <| law_f L0 _ _ _ _ _ _ fun x12 x13 => law_g L0 hok hl _ _ _ _ _ _ _ <| law_h L0 hok _ _ _ _ _ _ _ _ _ _ fun x14 =>
    law_i L0 _ _ _ _ _ _ _ _ _ _ _ _ fun s'' ss k1 k5 k7 => law_j L0 k1 k5 k7 _ _ _ _ _ _ _ _ _ _ _ _ _ <| law_k L0 k1 k5 k7 _ _ _ _ _ _ _ _ _ _ _ _ _ fun b _ => h _ _ rfl rfl rfl
def badStmt : Stmt := (defBody st_law).getD 2 (.Pass ⟨0, 0, 0, 0⟩)
def listOf : Stmt → List Expr
  | .Assign _ (.List es _) _ => es
  | _ => []
def badEs : List Expr := listOf badStmt
theorem row_er (zs : List Str) (h1 : decide (zs.length ≤ 1000) = true) (h2 : (zs.all fun z => decide (z.length ≤ 1000)) = true) : shortRow zs := ⟨of_decide_eq_true h1, fun z hz => of_decide_eq_true (List.all_eq_true.mp h2 z hz)⟩
theorem cut_deck (n : Nat) : cutD deckD none (some (n : Int)) = (deckS.take n).map D.str := by
  rw [cutD_to]
  unfold deckD
  rw [List.map_take]
theorem bad_all {k : Nat} {cd : Value} {E : XK} {cl : List (Str × Addr)} (L0 : LawK P w K mg base T k CD) (hex : PySem.W.exmOne K (.ref CD) (.ref CD) = some true) {Γ : Ga} {W : OW} (hΓ : Γ[1]? = some (some (.lst deckD))) : AllB (BadL (FL P w K mg base T (k + 2) cd E cl) CD Γ W) badEs := by
  have ac2 : (["AC", "AC"] : List Str).map D.str = [.str "AC", .str "AC"] := rfl
  have rep5 : (List.replicate (5 : Int).toNat [D.str "AC"]).flatten = (["AC", "AC", "AC", "AC", "AC"] : List Str).map .str := rfl
  refine And.intro ⟨_, _, _, _, rfl, ⟨LamX.lamS_by (by rfl), fun _ => rfl, fun _ _ _ _ _ => rfl⟩, CD, hex, fun cd E => ev_pure L0.check_card (Nat.le_refl _) (by rfl) (ea_cons ev_str ea_nil) (.er "1C" (by decide +kernel) (by decide +kernel))⟩ ?_
  refine And.intro ⟨_, _, _, _, rfl, ⟨LamX.lamS_by (by rfl), fun _ => rfl, fun _ _ _ _ _ => rfl⟩, CD, hex, fun cd E => ev_pure L0.check_card (Nat.le_refl _) (by rfl) (ea_cons ev_str ea_nil) (.er "AX" (by decide +kernel) (by decide +kernel))⟩ ?_
  refine And.intro ⟨_, _, _, _, rfl, ⟨LamX.lamS_by (by rfl), fun _ => rfl, fun _ _ _ _ _ => rfl⟩, CD, hex, fun cd E => ev_pure L0.check_card (Nat.le_refl _) (by rfl) (ea_cons ev_str ea_nil) (.er "10C" (by decide +kernel) (by decide +kernel))⟩ ?_
  refine And.intro ⟨_, _, _, _, rfl, ⟨LamX.lamS_by (by rfl), fun _ => rfl, fun _ _ _ _ _ => rfl⟩, CD, hex, fun cd E => ev_pure L0.rank_of (Nat.le_refl _) (by rfl) (ea_cons ev_str ea_nil) (.er "" (by decide +kernel) (by decide +kernel))⟩ ?_
  refine And.intro ⟨_, _, _, _, rfl, ⟨LamX.lamS_by (by rfl), fun _ => rfl, fun _ _ _ _ _ => rfl⟩, CD, hex, fun cd E => ev_pure L0.is_red (Nat.le_refl _) (by rfl) (ea_cons ev_str ea_nil) (.er "C" (by decide +kernel) (by decide +kernel))⟩ ?_
  refine And.intro ⟨_, _, _, _, rfl, ⟨LamX.lamS_by (by rfl), fun _ => rfl, fun _ _ _ _ _ => rfl⟩, CD, hex, fun cd E => ev_pure L0.check_row (Nat.le_refl _) (by rfl) (ea_cons (EN.ev (en_lst (ds := (["AC", "AC"] : List Str).map .str) (ea_cons ev_str (ea_cons ev_str ea_nil)) (by decide))) ea_nil) (.er _ ["AC", "AC"] .lst (row_er _ (by decide +kernel) (by decide +kernel)) (by decide +kernel))⟩ ?_
  refine And.intro ⟨_, _, _, _, rfl, ⟨LamX.lamS_by (by rfl), fun _ => rfl, fun _ _ _ _ _ => rfl⟩, CD, hex, fun cd E => ev_pure L0.dealt (Nat.le_refl _) (by rfl) (ea_cons (EN.ev (en_lst ea_nil (by decide))) (ea_cons ev_int ea_nil)) (.er _ 0 (by decide))⟩ ?_
  refine And.intro ⟨_, _, _, _, rfl, ⟨LamX.lamS_by (by rfl), fun _ => rfl, fun _ _ _ _ _ => rfl⟩, CD, hex, fun cd E => ev_pure L0.new_order (Nat.le_refl _) (by rfl) (ea_cons (EN.ev (en_lst (ds := (["AC", "AC"] : List Str).map .str) (ea_cons ev_str (ea_cons ev_str ea_nil)) (by decide))) ea_nil) (.er _ ["AC", "AC"] .lst (row_er _ (by decide +kernel) (by decide +kernel)) (by decide +kernel))⟩ ?_
  refine And.intro ⟨_, _, _, _, rfl, ⟨LamX.lamS_by (by rfl), fun _ => rfl, fun _ _ _ _ _ => rfl⟩, CD, hex, fun cd E => ev_pure L0.runs_up (Nat.le_refl _) (by rfl) (ea_cons (EN.ev (en_lst (ds := (["x"] : List Str).map .str) (ea_cons ev_str ea_nil) (by decide))) ea_nil) (.er ["x"] (row_er _ (by decide +kernel) (by decide +kernel)) (by decide +kernel))⟩ ?_
  refine And.intro ⟨_, _, _, _, rfl, ⟨LamX.lamS_by (by rfl), fun _ => rfl, fun _ _ _ _ _ => rfl⟩, CD, hex, fun cd E => ev_pure L0.rising (Nat.le_refl _) (by rfl) (ea_cons (EN.ev (en_lst (ds := (["x"] : List Str).map .str) (ea_cons ev_str ea_nil) (by decide))) ea_nil) (.er _ ["x"] .lst (row_er _ (by decide +kernel) (by decide +kernel)) (by decide +kernel))⟩ ?_
  refine And.intro ⟨_, _, _, _, rfl, ⟨LamX.lamS_by (by rfl), fun _ => rfl, fun _ _ _ _ _ => rfl⟩, CD, hex, fun cd E => ev_pure L0.hand_kind (Nat.le_refl _) (by rfl) (ea_cons (EN.ev (EN.to (en_slice (ev_var 1 rfl (.inr (.inr rfl)) hΓ) eo_none (eo_some ev_int) .lst) (cut_deck 4))) ea_nil) (.er _ (deckS.take 4) .lst (row_er _ (by decide +kernel) (by decide +kernel)) (.inr (by decide +kernel)))⟩ ?_
  refine And.intro ⟨_, _, _, _, rfl, ⟨LamX.lamS_by (by rfl), fun _ => rfl, fun _ _ _ _ _ => rfl⟩, CD, hex, fun cd E => ev_pure L0.hand_kind (Nat.le_refl _) (by rfl) (ea_cons (EN.ev (EN.to (en_rep (EN.ev (en_lst (ea_cons ev_str ea_nil) (by decide))) ev_int .lst (by decide)) rep5)) ea_nil) (.er _ ["AC", "AC", "AC", "AC", "AC"] .lst (row_er _ (by decide +kernel) (by decide +kernel)) (.inl (by decide +kernel)))⟩ ?_
  refine And.intro ⟨_, _, _, _, rfl, ⟨LamX.lamS_by (by rfl), fun _ => rfl, fun _ _ _ _ _ => rfl⟩, CD, hex, fun cd E => ev_pure L0.best_five (Nat.le_refl _) (by rfl) (ea_cons (EN.ev (EN.to (en_slice (ev_var 1 rfl (.inr (.inr rfl)) hΓ) eo_none (eo_some ev_int) .lst) (cut_deck 4))) ea_nil) (.er _ (deckS.take 4) .lst (row_er _ (by decide +kernel) (by decide +kernel)) (.inr (by decide +kernel)))⟩ ?_
  refine And.intro ⟨_, _, _, _, rfl, ⟨LamX.lamS_by (by rfl), fun _ => rfl, fun _ _ _ _ _ => rfl⟩, CD, hex, fun cd E => ev_pure L0.best_five (Nat.le_refl _) (by rfl) (ea_cons (EN.ev (EN.to (en_slice (ev_var 1 rfl (.inr (.inr rfl)) hΓ) eo_none (eo_some ev_int) .lst) (cut_deck 8))) ea_nil) (.er _ (deckS.take 8) .lst (row_er _ (by decide +kernel) (by decide +kernel)) (.inr (by decide +kernel)))⟩ ?_
  refine And.intro ⟨_, _, _, _, rfl, ⟨LamX.lamS_by (by rfl), fun _ => rfl, fun _ _ _ _ _ => rfl⟩, CD, hex, fun cd E => ev_pure L0.best_five (Nat.le_refl _) (by rfl) (ea_cons (EN.ev (EN.to (en_rep (EN.ev (en_lst (ea_cons ev_str ea_nil) (by decide))) ev_int .lst (by decide)) rep5)) ea_nil) (.er _ ["AC", "AC", "AC", "AC", "AC"] .lst (row_er _ (by decide +kernel) (by decide +kernel)) (.inl (by decide +kernel)))⟩ ?_
  exact trivial
end
end K1
set_option Elab.async false
set_option linter.all false
set_option maxRecDepth 100000
set_option maxHeartbeats 2000000
set_option autoImplicit false
namespace K1
open PySem PySem.Spec PySem.W PyProof.Rows L2 Sh
theorem kind_sf : kindS ["TC", "JC", "QC", "KC", "AC"] = "straight flush" := by
  have h : ranksOf ["TC", "JC", "QC", "KC", "AC"] = [1, 10, 11, 12, 13] := (srt_one (by decide +kernel) (by decide +kernel)).symm
  have h2 : cntsOf [1, 10, 11, 12, 13] = [1, 1, 1, 1, 1] := (srt_one (by decide +kernel) (by decide +kernel)).symm
  unfold kindS
  rw [h, h2]
  decide +kernel
theorem kind_hi : kindS ["QC", "KD", "AC", "2C", "3C"] = "high" := by
  have h : ranksOf ["QC", "KD", "AC", "2C", "3C"] = [1, 2, 3, 12, 13] := (srt_one (by decide +kernel) (by decide +kernel)).symm
  have h2 : cntsOf [1, 2, 3, 12, 13] = [1, 1, 1, 1, 1] := (srt_one (by decide +kernel) (by decide +kernel)).symm
  unfold kindS
  rw [h, h2]
  decide +kernel
theorem ris_deck : risN (newOrd deckS) = 1 := by decide +kernel
theorem runs_deck : runsTo deckS deckS.length = 1 := by decide +kernel
section
variable {P : Program} {w : World} {K : PySem.W.Frag} {mg : Str → Option Value} {base : Heap} {T : Tb} {CD : Addr}
theorem lq_two {Γ : Ga} {d0 d1 : D} (hl : Γ.length = 23) (h0 : Γ[0]? = some (some d0)) (h1 : Γ[1]? = some (some d1)) : Lq Γ (GL [d0, d1]) := by
  refine ⟨hl.symm, fun i d h => ?_⟩
  match i with
  | 0 => cases h; exact h0
  | 1 => cases h; exact h1
  | i + 2 =>
    exfalso
    have h : (List.replicate 21 (none : Option D))[i]? = some (some d) := h
    rw [List.getElem?_replicate] at h
    split at h <;> cases h
theorem lawEnd {k : Nat} {cd : Value} {E : XK} {cl : List (Str × Addr)} {q : Addr} {W : OW} (L0 : LawK P w K mg base T k CD) (lt : LTab (FL P w K mg base T (k + 2) cd E cl)) (hex : PySem.W.exmOne K (.ref CD) (.ref CD) = some true) :
    SS (FL P w K mg base T (k + 2) cd E cl) ((defBody st_law).drop 2) (GL [.ptr q, .lst deckD]) W (AEof (.ok (.bl true)) []) := by
  have L2 := L0.mono (Nat.le_add_right k 2)
  have hB := fun {Γ : Ga} {W : OW} (hΓ : Γ[1]? = some (some (.lst deckD))) => bad_all (cd := cd) (E := E) (cl := cl) L0 hex (Γ := Γ) (W := W) hΓ
  have hBs : LamBs (defScope st_law) badEs := lamBs_of fun e he => by
    obtain ⟨pa, bd, sc, lp, e1, lb, _⟩ := (allB_mem (hB (Γ := GL [.ptr q, .lst deckD]) (W := W) rfl) e he).ex
    exact ⟨pa, bd, sc, lp, e1, lb⟩
  have hbl : badEs.length = 15 := rfl
  refine ss_cons (s1_set 19 rfl (.inl rfl) (evr_lst (ear_lams (cl := cl) rfl lt badEs W _ hBs fun ds W' hW => ⟨by rw [hW.get.1, hbl]; decide, fun b => ?_⟩)))
  have hds := hW.get
  refine ss_cons (s1_ifF (et_w (ew_orF (ET.to (et_cmpR (EN.ev (en_bad (ib := 0) (j := 21) (jb := 19) (cl := cl) L2.told (Nat.le_add_left 2 k) rfl sc_law.nd (by rfl) rfl (.inl rfl) rfl rfl (by rw [hds.1, hbl]; decide) (fun i d hd => ?_) (by rfl) rfl (by rfl))) (EN.ev (en_lst ea_nil (by decide))) (.neD (Py.strsL []) (Py.strsL []) (shaped_strsL (by simp)) (shaped_strsL (by simp)) rfl)) (by rw [enc_str.list.eq]; rfl))
    (ew_orF (ET.to (et_cmpR (EN.ev (en_list (by rfl) L2.list (ev_pure0 L2.full_deck (Nat.le_refl _) (by rfl) .ok) (.tup _))) (ev_var 1 rfl (.inr (.inl rfl)) rfl) (.neD (Py.strsL deckS) (Py.strsL deckS) (shaped_strsL deck_strOk) (shaped_strsL deck_strOk) rfl)) (by rw [enc_str.list.eq]; simp))
    (ew_or1 (et_cmpR (ev_tup (ea_cons (ev_globS (by rfl) L2.D.ranks.choose_spec) (ea_cons (ev_globS (by rfl) L2.D.suits.choose_spec) (ea_cons (EV.to (d1 := .int 9) (ev_len (by rfl) L2.D.len (ev_kinds L2.Kd (by rfl)) (.tup _)) rfl) ea_nil))) (Nat.le_of_ble_eq_true rfl)) (ev_tup (ea_cons ev_str (ea_cons ev_str (ea_cons ev_int ea_nil))) (Nat.le_of_ble_eq_true rfl)) (.neD (py_tup3 (.str _) (.str _) (.int _)) (py_tup3 (.str _) (.str _) (.int _)) (by decide +kernel) (by decide +kernel) (by decide +kernel))))))) (ss_nil ?_))
  · obtain ⟨f, e, w, e1, h1, h2, h3⟩ := hds.2 i d hd
    exact ⟨f, e, w, e1, List.mem_cons_of_mem _ h1, h2, allB_mem (hB rfl) e h3⟩
  · have hsf : ∀ z ∈ (["TC", "JC", "QC", "KC", "AC"] : List Str), PyData.strOk z = true := by decide +kernel
    refine ss_one (s1_ret (evr_of (EV.to (ev_andT (EV.to (ev_cmpR (ev_pure L2.hand_kind (Nat.le_refl _) (by rfl) (ea_cons (EN.ev (en_lst (ds := (["TC", "JC", "QC", "KC", "AC"] : List Str).map .str) (ea_cons ev_str (ea_cons ev_str (ea_cons ev_str (ea_cons ev_str (ea_cons ev_str ea_nil))))) (Nat.le_of_ble_eq_true rfl))) ea_nil) (.ok _ ["TC", "JC", "QC", "KC", "AC"] .lst (row_er _ (by decide +kernel) (by decide +kernel)) (by decide +kernel) rfl)) ev_str (.eqS _ _)) (by rw [kind_sf]; rfl))
      (ev_andT (EV.to (ev_cmpR (ev_pure L2.hand_kind (Nat.le_refl _) (by rfl) (ea_cons (EN.ev (en_lst (ds := (["QC", "KD", "AC", "2C", "3C"] : List Str).map .str) (ea_cons ev_str (ea_cons ev_str (ea_cons ev_str (ea_cons ev_str (ea_cons ev_str ea_nil))))) (Nat.le_of_ble_eq_true rfl))) ea_nil) (.ok _ ["QC", "KD", "AC", "2C", "3C"] .lst (row_er _ (by decide +kernel) (by decide +kernel)) (by decide +kernel) rfl)) ev_str (.eqS _ _)) (by rw [kind_hi]; rfl))
      (ev_andT (EV.to (ev_cmpR (ev_pure L2.rising (Nat.le_refl _) (by rfl) (ea_cons (ev_var 1 rfl (.inr (.inl rfl)) rfl) ea_nil) (.ok _ deckS .lst (ok_short deck_ok (by decide +kernel)) deck_ok)) ev_int (.eqI _ _)) (by rw [ris_deck]; rfl))
      (ev_andT (EV.to (ev_cmpR (ev_pure L2.rising (Nat.le_refl _) (by rfl) (ea_cons (EN.ev (en_lst (ds := ([] : List Str).map .str) ea_nil (by decide))) ea_nil) (.ok _ [] .lst (row_er _ (by decide +kernel) (by decide +kernel)) (by decide +kernel))) ev_int (.eqI _ _)) (by rw [show risN (newOrd []) = 0 by decide +kernel]; rfl))
      (ev_andT (EV.to (ev_cmpR (ev_pure L2.runs_up (Nat.le_refl _) (by rfl) (ea_cons (ev_var 1 rfl (.inr (.inl rfl)) rfl) ea_nil) (.ok deckS (ok_short deck_ok (by decide +kernel)) deck_ok)) ev_int (.eqI _ _)) (by rw [runs_deck]; rfl))
      (ev_one (EV.to (ev_cmpR (ev_pure L2.runs_up (Nat.le_refl _) (by rfl) (ea_cons (EN.ev (en_lst (ds := ([] : List Str).map .str) ea_nil (by decide))) ea_nil) (.ok [] (row_er _ (by decide +kernel) (by decide +kernel)) (by decide +kernel))) ev_int (.eqI _ _)) (by rfl)))))))) rfl) ⟨rfl, .nil _⟩))
theorem ok_law {f : Addr} {fd : FuncData} {k : Nat} {c P0 : Addr} (L0 : LawK P w K mg base T k CD) (hex : PySem.W.exmOne K (.ref CD) (.ref CD) = some true) (hcd : fd.code = .ref c) (tb : LamX.TabB base mg c P0) (hm : (P0, ("law.<locals>.<lambda>" : Str)) ∈ T.l) (hu : ∀ p ∈ T.l, p.1 = P0 → p.2 = "law.<locals>.<lambda>") (Fu : Fun K "law" "law" st_law f fd) : FnOk P w K mg base (L2.CX P w) (k + 3) f fd ["script"] (spOf K T (SLaw K T)) := by
  refine fn_def Fu sc_law (fun ds W o W' h => by cases h <;> rfl) fun cl E ds W o W' h => ?_
  have L2 := L0.mono (Nat.le_add_right k 2)
  cases h with
  | mk q ns W hS =>
    have lt : LTab (FL P w K mg base T (k + 2) fd.code E cl) := ⟨c, P0, hcd, tb, hm, hu⟩
    refine ss_cons (s1_set 1 rfl (.inr rfl) (evr_of (ev_pure0 L2.deck (Nat.le_refl _) (by rfl) .ok) ?_))
    refine ss_cons (s1_forR (Pp := fun ds Wk W1 => ∃ L p s, ds = [.ptr p] ∧ Wk = (fun W' => AsL W' (.ptr L) [.ptr p]) ∧ W1 = W3 L p s W) (eir_list (evr_callR (Wf := W) (Wr := []) (F := FL P w K mg base T (k + 2) fd.code E cl) L2.rounds (Nat.le_refl _) (by rfl) (ea_cons (ev_var 0 rfl (.inl rfl) rfl) (ea_cons ev_int ea_nil)) (by rw [List.append_nil]) (.mk q ns W hS) fun d Wf' hd => ?_)) fun ds Wk W1 hP => ?_)
    · obtain ⟨L, p, s, rfl, rfl⟩ := hd
      rw [List.append_nil]
      exact ⟨[.ptr p], .own 0 rfl, L, p, s, rfl, rfl, rfl⟩
    · obtain ⟨L, p, s, rfl, rfl, rfl⟩ := hP
      refine ⟨fun i Γ' W' => (i = 0 ∧ Γ' = GL [.ptr q, .lst deckD] ∧ W' = W3 L p s W) ∨ (i = 1 ∧ Γ'.length = 23 ∧ Γ'[0]? = some (some (.ptr q)) ∧ Γ'[1]? = some (some (.lst deckD)) ∧ ∃ s', W' = W3 L p s' W), .inl ⟨rfl, rfl, rfl⟩, fun i Γ' W' hI => ?_, fun i d Γ' W' hd hI => ?_, fun Γ' W' hI => ?_⟩
      · rcases hI with ⟨_, _, rfl⟩ | ⟨_, _, _, _, s', rfl⟩
        · exact .own 0 rfl
        · exact .own 0 rfl
      · rcases hI with ⟨rfl, rfl, rfl⟩ | ⟨rfl, _⟩
        · cases hd
          exact ⟨_, _, eg_name (fun X h => h.toG) 2 rfl (.inl rfl), law_body L2 fun Γ s' h1 h2 h3 => .inr ⟨rfl, h1, h2, h3, s', rfl⟩⟩
        · cases hd
      · rcases hI with ⟨h, _⟩ | ⟨_, h1, h2, h3, s', rfl⟩
        · cases h
        · exact (lawEnd (cd := fd.code) (E := E) (cl := cl) (q := q) (W := W) L0 lt hex).weak (lq_two h1 h2 h3) ((List.sublist_cons_self _ _).trans (List.sublist_cons_self _ _))
end
end K1
set_option Elab.async false
set_option linter.all false
set_option maxRecDepth 100000
set_option maxHeartbeats 0
set_option autoImplicit false
namespace K1
open PySem PySem.Spec PySem.W PyProof.Rows L2 Sh
abbrev st_told : Stmt := topS 23
def dDs : List (Str × Stmt) := [("check_card", st_check_card), ("full_deck", st_full_deck), ("rank_of", st_rank_of), ("is_red", st_is_red), ("check_row", st_check_row), ("dealt", st_dealt), ("gathered", st_gathered), ("new_order", st_new_order), ("runs_up", st_runs_up), ("rising", st_rising), ("hand_kind", st_hand_kind), ("best_five", st_best_five),
  ("_law_dice", st_dice), ("_law_roll", st_roll), ("_law_rounds", st_rounds), ("_law_told", st_told), ("_law_deck", st_ldeck), ("_law_mixed", st_mixed), ("_law_kind", st_lkind), ("_law_fives", st_fives), ("law", st_law)]
def dFns : List He.DefD := dDs.map fun p => dfn p.1 p.2
def dFree : List Str := ["len", "tuple", "list", "range", "int", "abs", "min", "enumerate", "zip", "sorted", "dict"]
def dFa : List He.Fa := dDs.map (fun p => .glo p.1) ++ (dFree.map .free ++ [.str "RANKS" "A23456789TJQK", .str "SUITS" "CDHS", .glo "DeckError", .exc "DeckError", .exm "DeckError" "DeckError" true, .glo "KINDS"])
def dTf : List He.Defn := [("dealt", none), ("new_order", none), ("hand_kind", none), ("best_five", none), ("law", none)]
def tbs (K : PySem.W.Frag) : List Addr := dTf.map fun p => (He.cT K p).2
def dEx (K : PySem.W.Frag) : Bool := tupN K "KINDS" (kindsL.map .str) && decide (tbs K).Nodup
def dNames : List Str := ["CardError", "DeckError", "RANKS", "SUITS", "check_card", "full_deck", "rank_of", "is_red", "check_row", "dealt", "gathered", "new_order", "runs_up", "rising", "hand_kind", "best_five", "KINDS", "_law_dice", "_law_roll", "_law_rounds", "_law_told", "_law_deck", "_law_mixed", "_law_kind", "_law_fives"]
abbrev R : PySem.W.OpenRow := PySem.W.OpenLaw.row PySem.Challenge.rw_shufflestack_k01_decks_and_hands
abbrev hk : PySem.W.Hook := He.hookX 5 dFa dFns [] dTf dEx
def ob (s : PySem.W.SharedT) : He.AlX := He.obsX 5 dFa dFns [] dTf dEx (HandSHeadRun.getT s)
theorem ob_eq (s : PySem.W.SharedT) : ob s = hk.obs s.abs := He.obsX_eq (HandSHeadRun.getT_eq s)
theorem run (w : World) : HandSHeadRun.RunEq R (PySem.W.view R.prog [28]) hk ob 2000 dNames w := by
  intro os
  kernel_rfl
end K1
set_option Elab.async false
set_option linter.all false
set_option maxRecDepth 100000
set_option maxHeartbeats 4000000
set_option autoImplicit false
namespace K1
open PySem PySem.Spec PySem.W PyProof.Rows L2 Sh
def tP (K : PySem.W.Frag) (x : Str) : Addr := (He.cT K (x, none)).2
def tbOf (K : PySem.W.Frag) : Tb := ⟨[tP K "dealt", tP K "new_order", tP K "hand_kind", tP K "best_five"], [(tP K "law", "law.<locals>.<lambda>")]⟩
theorem facts {l : PySem.W.OpenLaw} {w : World} {K : PySem.W.Frag} {h : Heap} {mg : Str → Option Value} {fa : Addr} (X : K.In h) (G : h.Ns mainGlobals mg) (hfa : mg ("law" : Str) = some (.ref fa)) (c : He.SaysX dFa dFns [] dTf dEx w h K) : LamX.LawAtS l w K (L2.CX l.prog w) 10 63 "script" mg fa h := by
  have d : He.SaysD dFa dFns K := c.t.d
  have gl : ∀ x ∈ dDs.map (·.1), mg x = some (.ref (He.ga K x)) := fun x hx => He.glo_ok X G (d.facts (List.mem_append_left _ (by
    obtain ⟨p, hp, rfl⟩ := List.mem_map.mp hx
    exact List.mem_map.mpr ⟨p, hp, rfl⟩)))
  have fr : ∀ x ∈ dFree, mg x = none := fun x hx => He.free_ok X G (d.facts (List.mem_append_right _ (List.mem_append_left _ (List.mem_map_of_mem hx))))
  have ot : ∀ (i : Nat) (f : He.Fa), ([.str "RANKS" "A23456789TJQK", .str "SUITS" "CDHS", .glo "DeckError", .exc "DeckError", .exm "DeckError" "DeckError" true, .glo "KINDS"] : List He.Fa)[i]? = some f → f.ok K = true := fun i f hf => d.facts (List.mem_append_right _ (List.mem_append_right _ (List.mem_of_getElem? hf)))
  have fn : ∀ (x : Str) (st : Stmt) (i : Nat), dDs[i]? = some (x, st) → ∃ fd, Fun K x x st (He.ga K x) fd := fun x st i hi => by
    obtain ⟨fd, F⟩ := d.def_ i (d := dfn x st) (by unfold dFns; rw [List.getElem?_map, hi]; rfl)
    exact ⟨fd, fun_of F⟩
  obtain ⟨fd0, F0⟩ := fn "check_card" st_check_card 0 rfl
  obtain ⟨fd1, F1⟩ := fn "full_deck" st_full_deck 1 rfl
  obtain ⟨fd2, F2⟩ := fn "rank_of" st_rank_of 2 rfl
  obtain ⟨fd3, F3⟩ := fn "is_red" st_is_red 3 rfl
  obtain ⟨fd4, F4⟩ := fn "check_row" st_check_row 4 rfl
  obtain ⟨fd5, F5⟩ := fn "dealt" st_dealt 5 rfl
  obtain ⟨fd6, F6⟩ := fn "gathered" st_gathered 6 rfl
  obtain ⟨fd7, F7⟩ := fn "new_order" st_new_order 7 rfl
  obtain ⟨fd8, F8⟩ := fn "runs_up" st_runs_up 8 rfl
  obtain ⟨fd9, F9⟩ := fn "rising" st_rising 9 rfl
  obtain ⟨fd10, F10⟩ := fn "hand_kind" st_hand_kind 10 rfl
  obtain ⟨fd11, F11⟩ := fn "best_five" st_best_five 11 rfl
  obtain ⟨fd12, F12⟩ := fn "_law_dice" st_dice 12 rfl
  obtain ⟨fd13, F13⟩ := fn "_law_roll" st_roll 13 rfl
  obtain ⟨fd14, F14⟩ := fn "_law_rounds" st_rounds 14 rfl
  obtain ⟨fd15, F15⟩ := fn "_law_told" st_told 15 rfl
  obtain ⟨fd16, F16⟩ := fn "_law_deck" st_ldeck 16 rfl
  obtain ⟨fd17, F17⟩ := fn "_law_mixed" st_mixed 17 rfl
  obtain ⟨fd18, F18⟩ := fn "_law_kind" st_lkind 18 rfl
  obtain ⟨fd19, F19⟩ := fn "_law_fives" st_fives 19 rfl
  obtain ⟨fd20, F20⟩ := fn "law" st_law 20 rfl
  have g : ∀ (i : Nat) (p : Str × Stmt), dDs[i]? = some p → mg p.1 = some (.ref (He.ga K p.1)) := fun i p hi => gl p.1 (List.mem_map.mpr ⟨p, List.mem_of_getElem? hi, rfl⟩)
  have e := hfa.symm.trans (g 20 ("law", st_law) rfl)
  cases e
  obtain ⟨hk1, hk2⟩ := He.ba c.more
  have nd : (tbs K).Nodup := of_decide_eq_true hk2
  have D : Deck K mg (He.ga K "DeckError") := ⟨fr "len" (by decide +kernel), He.str_ok X G (ot 0 _ rfl), He.str_ok X G (ot 1 _ rfl), xc_of X G (ot 2 _ rfl) (ot 3 _ rfl)⟩
  have hex : PySem.W.exmOne K (.ref (He.ga K "DeckError")) (.ref (He.ga K "DeckError")) = some true := He.exm_ok (ot 4 _ rfl)
  have Kd : Kinds K mg := ⟨_, He.glo_ok X G (ot 5 (.glo "KINDS") rfl), fun G' => .tup_mk (tupN_ok hk1 G') (Rps.of_strs kindsL)⟩
  refine law_at (T := tbOf K) (cs := dTf.map (He.cT K)) (fd := fd20) (fun p hp => ?_) (fun p hp => ?_) (fun p hp => ?_) (fun P hP => ?_) (fun q hq => ?_) (fun s u => ?_) fun base KB GB TB => ?_
  · obtain ⟨x, hx, rfl⟩ := List.mem_map.mp hp
    exact c.empty x hx
  · obtain ⟨x, hx, rfl⟩ := List.mem_map.mp hp
    exact c.out x hx
  · obtain ⟨x, hx, rfl⟩ := List.mem_map.mp hp
    exact codeHd_of_K X (c.hd x hx)
  · have hP : P ∈ [tP K "dealt", tP K "new_order", tP K "hand_kind", tP K "best_five"] := hP
    simp only [List.mem_cons, List.not_mem_nil, or_false] at hP
    rcases hP with rfl | rfl | rfl | rfl
    · exact ⟨_, List.mem_map_of_mem (f := He.cT K) (List.mem_of_getElem? (l := dTf) (i := 0) rfl), rfl⟩
    · exact ⟨_, List.mem_map_of_mem (f := He.cT K) (List.mem_of_getElem? (l := dTf) (i := 1) rfl), rfl⟩
    · exact ⟨_, List.mem_map_of_mem (f := He.cT K) (List.mem_of_getElem? (l := dTf) (i := 2) rfl), rfl⟩
    · exact ⟨_, List.mem_map_of_mem (f := He.cT K) (List.mem_of_getElem? (l := dTf) (i := 3) rfl), rfl⟩
  · have hq : q ∈ [(tP K "law", ("law.<locals>.<lambda>" : Str))] := hq
    rw [List.mem_singleton] at hq
    subst hq
    exact ⟨_, List.mem_map_of_mem (f := He.cT K) (List.mem_of_getElem? (l := dTf) (i := 4) rfl), rfl⟩
  · exact binds_one F20 (fun _ _ _ _ _ _ _ => rfl) s u
  · have hdif : ∀ i, i < 4 → ∀ a, (tbs K)[i]? = some a → a ∉ (tbOf K).l.map (·.1) := fun i hi a ha hm => by
      have hm : a ∈ [tP K "law"] := hm
      rw [List.mem_singleton] at hm
      subst hm
      have h4 : (tbs K)[4]? = some (tP K "law") := rfl
      have hi5 : i < (tbs K).length := (List.getElem?_eq_some_iff.mp ha).1
      exact absurd ((List.getElem?_inj hi5 nd).mp (ha.trans h4.symm)) (by omega)
    have t5 := tab_of (T := tbOf K) (tf := dTf) F5 TB (List.mem_of_getElem? (i := 0) rfl) (List.mem_of_getElem? (i := 0) rfl) (hdif 0 (by decide) _ rfl)
    have t7 := tab_of (T := tbOf K) (tf := dTf) F7 TB (List.mem_of_getElem? (i := 1) rfl) (List.mem_of_getElem? (i := 1) rfl) (hdif 1 (by decide) _ rfl)
    have t10 := tab_of (T := tbOf K) (tf := dTf) F10 TB (List.mem_of_getElem? (i := 2) rfl) (List.mem_of_getElem? (i := 2) rfl) (hdif 2 (by decide) _ rfl)
    have t11 := tab_of (T := tbOf K) (tf := dTf) F11 TB (List.mem_of_getElem? (i := 3) rfl) (List.mem_of_getElem? (i := 3) rfl) (hdif 3 (by decide) _ rfl)
    have fl := fr "len" (by decide +kernel)
    have ft := fr "tuple" (by decide +kernel)
    have fs := fr "list" (by decide +kernel)
    have frg := fr "range" (by decide +kernel)
    have fi := fr "int" (by decide +kernel)
    have fa' := fr "abs" (by decide +kernel)
    have fm := fr "min" (by decide +kernel)
    have fe := fr "enumerate" (by decide +kernel)
    have fz := fr "zip" (by decide +kernel)
    have fo := fr "sorted" (by decide +kernel)
    have fd' := fr "dict" (by decide +kernel)
    have check_card : Fd l.prog w K mg base (tbOf K) "check_card" 1 1 _ := Fd.mk2 F0 (g 0 _ rfl) (ok_check_card (k := 0) D F0) (fun _ _ _ _ _ _ us hl => match us, hl with | [_], _ => rfl)
    have full_deck : Fd l.prog w K mg base (tbOf K) "full_deck" 1 0 _ := Fd.mk2 F1 (g 1 _ rfl) (ok_full_deck (k := 0) D ft F1) (fun _ _ _ _ _ _ us hl => match us, hl with | [], _ => rfl)
    have rank_of : Fd l.prog w K mg base (tbOf K) "rank_of" 2 1 _ := Fd.mk2 F2 (g 2 _ rfl) (ok_rank_of (k := 1) D check_card F2) (fun _ _ _ _ _ _ us hl => match us, hl with | [_], _ => rfl)
    have is_red : Fd l.prog w K mg base (tbOf K) "is_red" 2 1 _ := Fd.mk2 F3 (g 3 _ rfl) (ok_is_red (k := 1) D check_card F3) (fun _ _ _ _ _ _ us hl => match us, hl with | [_], _ => rfl)
    have check_row : Fd l.prog w K mg base (tbOf K) "check_row" 2 1 _ := Fd.mk2 F4 (g 4 _ rfl) (ok_check_row (k := 1) D check_card F4) (fun _ _ _ _ _ _ us hl => match us, hl with | [_], _ => rfl)
    have dealt : Fd l.prog w K mg base (tbOf K) "dealt" 4 2 _ := Fd.mk2 F5 (g 5 _ rfl) (ok_dealt (k := 3) D ft frg t5 (by decide) F5) (fun _ _ _ _ _ _ us hl => match us, hl with | [_, _], _ => rfl)
    have gathered : Fd l.prog w K mg base (tbOf K) "gathered" 1 1 _ := Fd.mk2 F6 (g 6 _ rfl) (ok_gathered (k := 0) ft fs F6) (fun _ _ _ _ _ _ us hl => match us, hl with | [_], _ => rfl)
    have new_order : Fd l.prog w K mg base (tbOf K) "new_order" 4 1 _ := Fd.mk2 F7 (g 7 _ rfl) (ok_new_order (k := 3) (check_row.up (by decide)) (full_deck.up (by decide)) ft t7 (by decide) F7) (fun _ _ _ _ _ _ us hl => match us, hl with | [_], _ => rfl)
    have runs_up : Fd l.prog w K mg base (tbOf K) "runs_up" 3 1 _ := Fd.mk2 F8 (g 8 _ rfl) (ok_runs_up (k := 2) check_row (full_deck.up (by decide)) fe F8) (fun _ _ _ _ _ _ us hl => match us, hl with | [_], _ => rfl)
    have rising : Fd l.prog w K mg base (tbOf K) "rising" 5 1 _ := Fd.mk2 F9 (g 9 _ rfl) (ok_rising (k := 4) new_order fl fz F9) (fun _ _ _ _ _ _ us hl => match us, hl with | [_], _ => rfl)
    have hand_kind : Fd l.prog w K mg base (tbOf K) "hand_kind" 6 1 _ := Fd.mk2 F10 (g 10 _ rfl) (ok_hand_kind (k := 5) D (check_row.up (by decide)) rank_of fo t10 (by decide) F10) (fun _ _ _ _ _ _ us hl => match us, hl with | [_], _ => rfl)
    have best_five : Fd l.prog w K mg base (tbOf K) "best_five" 7 1 _ := Fd.mk2 F11 (g 11 _ rfl) (ok_best_five (k := 6) D Kd ft frg hand_kind t11 (by decide) F11) (fun _ _ _ _ _ _ us hl => match us, hl with | [_], _ => rfl)
    have dice : FdR l.prog w K mg base (tbOf K) "_law_dice" 1 1 _ := FdR.mk2 F12 (g 12 _ rfl) (ok_dice (k := 0) fa' fi F12) (fun _ _ _ _ _ _ us hl => match us, hl with | [_], _ => rfl)
    have roll : Fd l.prog w K mg base (tbOf K) "_law_roll" 1 2 _ := Fd.mk2 F13 (g 13 _ rfl) (ok_roll (k := 0) fi F13) (fun _ _ _ _ _ _ us hl => match us, hl with | [_, _], _ => rfl)
    have rounds : FdR l.prog w K mg base (tbOf K) "_law_rounds" 2 2 _ := FdR.mk2 F14 (g 14 _ rfl) (ok_rounds (k := 1) dice F14) (fun _ _ _ _ _ _ us hl => match us, hl with | [_, _], _ => rfl)
    have ldeck : Fd l.prog w K mg base (tbOf K) "_law_deck" 1 0 _ := Fd.mk2 F16 (g 16 _ rfl) (ok_ldeck (k := 0) F16) (fun _ _ _ _ _ _ us hl => match us, hl with | [], _ => rfl)
    have mixed : Fd l.prog w K mg base (tbOf K) "_law_mixed" 2 3 _ := Fd.mk2 F17 (g 17 _ rfl) (ok_mixed (k := 1) fs frg fm fl roll F17) (fun _ _ _ _ _ _ us hl => match us, hl with | [_, _, _], _ => rfl)
    have lkind : Fd l.prog w K mg base (tbOf K) "_law_kind" 1 1 _ := Fd.mk2 F18 (g 18 _ rfl) (ok_lkind (k := 0) fl fo fd' fs frg F18) (fun _ _ _ _ _ _ us hl => match us, hl with | [_], _ => rfl)
    have fives : Fd l.prog w K mg base (tbOf K) "_law_fives" 1 1 _ := Fd.mk2 F19 (g 19 _ rfl) (ok_fives (k := 0) fl frg F19) (fun _ _ _ _ _ _ us hl => match us, hl with | [_], _ => rfl)
    have told : Told l.prog w K mg "_law_told" (He.ga K "DeckError") "DeckError" := told_of (a := "what") (e := "DeckError") F15 (g 15 _ rfl) rfl ⟨rfl, rfl, rfl, by decide +kernel, rfl, by decide +kernel, by decide +kernel⟩ (.inl rfl) rfl (He.glo_ok X G (ot 2 _ rfl)) (fun _ _ _ _ _ _ us hl => match us, hl with | [_], _ => rfl)
    have L0 : LawK l.prog w K mg base (tbOf K) 7 (He.ga K "DeckError") := ⟨D, Kd, ft, fs, frg, fi, fm, fe, roll.up (by decide), mixed.up (by decide), ldeck.up (by decide), rounds.imp (by decide), lkind.up (by decide), fives.up (by decide), told, check_card.up (by decide), full_deck.up (by decide), rank_of.up (by decide), is_red.up (by decide), check_row.up (by decide), dealt.up (by decide), gathered.up (by decide), new_order.up (by decide), runs_up.up (by decide), rising.up (by decide), hand_kind.up (by decide), best_five⟩
    exact ok_law (k := 7) L0 hex (code_of F20 (p := ("law", none)) rfl) (TB _ (List.mem_map_of_mem (List.mem_of_getElem? (i := 4) rfl))) (List.mem_singleton.mpr rfl) (fun p hp _ => by
      have hp : p ∈ [(tP K "law", ("law.<locals>.<lambda>" : Str))] := hp
      rw [List.mem_singleton] at hp
      rw [hp]) F20
end K1
set_option Elab.async false
set_option linter.all false
set_option maxRecDepth 100000
set_option autoImplicit false
open PySem PySem.W PySem.Calls PyProof.Rows
set_option maxRecDepth 100000 in
set_option maxHeartbeats 0 in
theorem PySem.Challenge.cw_shufflestack_k01_decks_and_hands_holds : PySem.Challenge.rw_shufflestack_k01_decks_and_hands.Holds := by
  w_on; o_law
  refine HandSHeadRun.head_any (r := K1.R) (q := view K1.R.prog [28]) (H := K1.hk) (ob := K1.ob) (M := 2000) (loose := K1.dNames) (d := HandSHeadRun.topDef K1.R.prog 28) (kwd := []) K1.ob_eq
    (by kernel_rfl) (fun s => by kernel_rfl) K1.run (by kernel_rfl) (by kernel_rfl) (by kernel_rfl) (by rfl) (by first | assumption | decide +kernel) (by decide +kernel) ⟨rfl, rfl, rfl, rfl, rfl, by decide +kernel⟩ ?hw ?hc
  case hw => w_witness2
  case hc =>
    refine LamX.walk_ofTsE (l := PySem.Challenge.rw_shufflestack_k01_decks_and_hands) (n := 63) (k := 10) (x := "script") (CX := fun w => L2.CX (PySem.Challenge.rw_shufflestack_k01_decks_and_hands).prog w) rfl (by decide) (by kernel_rfl) ⟨rfl, by decide, by decide⟩ ?F (fun w H s e s' h => Sh.cx_none h)
    intro w mg fa h Y G hmg0
    obtain ⟨K, KX, c⟩ := Y
    have hmg : mg ("law" : PySem.Str) = some (.ref fa) := by
      have e : (HandSHeadRun.topDef K1.R.prog 28).name = ("law" : PySem.Str) := by kernel_rfl
      rw [← e]
      exact hmg0
    exact ⟨K, KX, K1.facts KX G hmg c⟩
