import PyProof.Rows.All
import Wide.All
import OpenK.AllK
import Wide.FinOn
import HandS.ForMost
import HandS.ExcInit
import HandS.TryMany
import HandS.TryOnly
import HandS.ExcField
import HandS.WordsExc
import HandS.CallSlots
import HandS.Lambda
import HandS.Nested
import HandS.CallLocal
import HandS.SortOrd
import HandS.SortInts
import HandS.Deep
import HandS.Conv
import HandS.IsInst
import HandS.WideBits
import HandS.TupAny
import HandS.TupLe
import HandS.TupMul
import HandS.Style
import HandS.Zip
import HandS.RaiseMore
import HandS.Flow
import HandS.Wide
import KE.KTupSum
import HandS.TupSets
import HandS.Strs
import HandS.EndTab
import HandS.NestedK
import KE.KRevSl
import PyProof.WalkInts
import PyProof.MinMaxWalk
import KE.SortData
import KE.GoesEnum
import PySem.Challenge.RW_partrules_k25_tables_of_gauss
set_option Elab.async false
set_option linter.all false
set_option maxRecDepth 100000
set_option maxHeartbeats 2000000
/-! # The data layer, part 0: Python values as trees, and how they lie in the abstract heap -/
namespace DL
open PySem PySem.Spec PyProof.Rows L2

/-- values as trees -/
inductive D where
  | non | bl (b : Bool) | int (i : Int) | str (x : Str)
  | tup (xs : List D) | lst (xs : List D)
  | dic (ks vs : List D)
  | obj (c : Nat) (fs : List D)
  | fn (n : Nat) | ty (n : String) | clo (n : Nat) | pen

/-- the fixed parts: K, where the text's defs and classes stand, the field names of the classes, how a lambda's object looks, the pen's address and that of its cells; what the lambdas have caught -/
structure Tx where
  K : PySem.W.Frag
  fa : Nat → Addr
  ca : Nat → Addr
  cf : Nat → List Str
  cl : Nat → Addr → Addr → HO
  cq : Nat → Str
  W : Option Addr
  Wc : Addr
  tb : List (Addr × Str)
  C : Hp
  Z : Hp
  kl : Nat
/-- what may change under an expression: the pen, the tables of code objects -/
def Tx.sp (T : Tx) (a : Addr) : Prop := T.W = some a ∨ ∃ q, (a, q) ∈ T.tb

mutual
def Rp (T : Tx) (F : Hp) : D → V → Prop
  | .non, v => v = .non
  | .bl b, v => v = .bl b
  | .int i, v => v = .int i
  | .str x, v => v = .str x
  | .tup ds, v => ∃ a vs, v = .ref a ∧ SqT T.K F a vs ∧ Rps T F ds vs
  | .lst ds, v => ∃ a vs, v = .ref a ∧ F a = some (.lst vs) ∧ Rps T F ds vs
  | .dic ks es, v => ∃ a kvs, v = .ref a ∧ F a = some (.dK kvs) ∧ Rps T F ks (kvs.map fun kv => kV kv.1) ∧ Rps T F es (kvs.map fun kv => kv.2)
  | .obj c fs, v => ∃ a dx vs, v = .ref a ∧ F a = some (.ins (T.ca c) dx ((T.cf c).zip vs)) ∧ (T.cf c).length = vs.length ∧ Rps T F fs vs
  | .fn n, v => v = .ref (T.fa n)
  | .ty n, v => v = .ty n
  | .clo n, v => ∃ a c, v = .ref a ∧ F a = some (T.cl n a c) ∧ F c = some (LamX.CodeO c (T.cq n))
  | .pen, v => ∃ a, v = .ref a ∧ T.W = some a
def Rps (T : Tx) (F : Hp) : List D → List V → Prop
  | [], vs => vs = []
  | d :: ds, vs => ∃ v r, vs = v :: r ∧ Rp T F d v ∧ Rps T F ds r
end

/-- all that F tracks G tracks -/
def Sub (F G : Hp) : Prop := ∀ a o, F a = some o → G a = some o
theorem Sub.refl (F : Hp) : Sub F F := fun _ _ h => h
theorem Sub.trans {F G I : Hp} (a : Sub F G) (b : Sub G I) : Sub F I := fun x o h => b x o (a x o h)
theorem Sub.rd {F G : Hp} (e : Sub F G) {a : Addr} {u : HO} (h : Rd F a u) : Rd G a u := by
  rcases h with h | ⟨o, h⟩
  · exact .inl (e _ _ h)
  · exact .inr ⟨o, e _ _ h⟩
theorem Sub.sql {K : PySem.W.Frag} {F G : Hp} (e : Sub F G) {a : Addr} {xs : List V} (h : SqL K F a xs) : SqL K G a xs := by
  rcases h with h | h
  · exact .inl (e.rd h)
  · exact .inr h
theorem Sub.sqt {K : PySem.W.Frag} {F G : Hp} (e : Sub F G) {a : Addr} {xs : List V} (h : SqT K F a xs) : SqT K G a xs := by
  rcases h with h | h
  · exact .inl (e.rd h)
  · exact .inr h

mutual
theorem Rp.sub {T : Tx} {F G : Hp} (e : Sub F G) : ∀ (d : D) {v : V}, Rp T F d v → Rp T G d v
  | .non, _, h => h
  | .bl _, _, h => h
  | .int _, _, h => h
  | .str _, _, h => h
  | .tup ds, v, h => by
    obtain ⟨a, vs, h1, h2, h3⟩ := h
    exact ⟨a, vs, h1, e.sqt h2, Rps.sub e ds h3⟩
  | .lst ds, v, h => by
    obtain ⟨a, vs, h1, h2, h3⟩ := h
    exact ⟨a, vs, h1, e _ _ h2, Rps.sub e ds h3⟩
  | .dic ks es, v, h => by
    obtain ⟨a, kvs, h1, h2, h3, h4⟩ := h
    exact ⟨a, kvs, h1, e _ _ h2, Rps.sub e ks h3, Rps.sub e es h4⟩
  | .obj c fs, v, h => by
    obtain ⟨a, dx, vs, h1, h2, h3, h4⟩ := h
    exact ⟨a, dx, vs, h1, e _ _ h2, h3, Rps.sub e fs h4⟩
  | .fn _, _, h => h
  | .ty _, _, h => h
  | .clo n, v, h => by
    obtain ⟨a, c, h1, h2, h3⟩ := h
    exact ⟨a, c, h1, e _ _ h2, e _ _ h3⟩
  | .pen, _, h => h
theorem Rps.sub {T : Tx} {F G : Hp} (e : Sub F G) : ∀ (ds : List D) {vs : List V}, Rps T F ds vs → Rps T G ds vs
  | [], _, h => h
  | d :: ds, vs, h => by
    obtain ⟨v, r, h1, h2, h3⟩ := h
    exact ⟨v, r, h1, Rp.sub e d h2, Rps.sub e ds h3⟩
end

section
variable {T : Tx} {F G : Hp}
theorem Rps.nil : Rps T F [] [] := rfl
theorem Rps.cons {d : D} {v : V} {ds : List D} {vs : List V} (h : Rp T F d v) (t : Rps T F ds vs) : Rps T F (d :: ds) (v :: vs) := ⟨v, vs, rfl, h, t⟩
theorem Rps.len : ∀ {ds : List D} {vs : List V}, Rps T F ds vs → ds.length = vs.length
  | [], _, h => by
    have h : _ = [] := h
    rw [h] <;> rfl
  | d :: ds, vs, h => by
    obtain ⟨v, r, rfl, _, h3⟩ := h
    rw [List.length_cons, List.length_cons, h3.len]
theorem Rps.app : ∀ {ds es : List D} {vs ws : List V}, Rps T F ds vs → Rps T F es ws → Rps T F (ds ++ es) (vs ++ ws)
  | [], es, vs, ws, h, g => by
    have h : vs = [] := h
    rw [h]
    exact g
  | d :: ds, es, vs, ws, h, g => by
    obtain ⟨v, r, rfl, h2, h3⟩ := h
    exact ⟨v, r ++ ws, rfl, h2, h3.app g⟩
theorem Rps.at_ : ∀ {ds : List D} {vs : List V} {i : Nat} {d : D}, Rps T F ds vs → ds[i]? = some d → ∃ v, vs[i]? = some v ∧ Rp T F d v
  | [], _, i, d, _, e => by simp at e
  | d :: ds, vs, 0, d', h, e => by
    obtain ⟨v, r, rfl, h2, h3⟩ := h
    have e : d = d' := by simpa using e
    subst e
    exact ⟨v, rfl, h2⟩
  | d :: ds, vs, i + 1, d', h, e => by
    obtain ⟨v, r, rfl, h2, h3⟩ := h
    obtain ⟨w, e1, e2⟩ := Rps.at_ (i := i) (d := d') h3 (by simpa using e)
    exact ⟨w, by simpa using e1, e2⟩
theorem Rps.back : ∀ {ds : List D} {vs : List V} {i : Nat} {v : V}, Rps T F ds vs → vs[i]? = some v → ∃ d, ds[i]? = some d ∧ Rp T F d v
  | [], vs, i, v, h, e => by
    have h : vs = [] := h
    rw [h] at e
    simp at e
  | d :: ds, vs, 0, v', h, e => by
    obtain ⟨v, r, rfl, h2, h3⟩ := h
    have e : v = v' := by simpa using e
    subst e
    exact ⟨d, rfl, h2⟩
  | d :: ds, vs, i + 1, v', h, e => by
    obtain ⟨v, r, rfl, h2, h3⟩ := h
    obtain ⟨w, e1, e2⟩ := Rps.back (i := i) (v := v') h3 (by simpa using e)
    exact ⟨w, by simpa using e1, e2⟩
theorem Rps.take : ∀ {ds : List D} {vs : List V} (n : Nat), Rps T F ds vs → Rps T F (ds.take n) (vs.take n)
  | [], vs, n, h => by
    have h : vs = [] := h
    rw [h, List.take_nil, List.take_nil] <;> rfl
  | d :: ds, vs, 0, h => rfl
  | d :: ds, vs, n + 1, h => by
    obtain ⟨v, r, rfl, h2, h3⟩ := h
    exact ⟨v, r.take n, rfl, h2, h3.take n⟩
theorem Rps.drop : ∀ {ds : List D} {vs : List V} (n : Nat), Rps T F ds vs → Rps T F (ds.drop n) (vs.drop n)
  | [], vs, n, h => by
    have h : vs = [] := h
    rw [h, List.drop_nil, List.drop_nil] <;> rfl
  | d :: ds, vs, 0, h => h
  | d :: ds, vs, n + 1, h => by
    obtain ⟨v, r, rfl, h2, h3⟩ := h
    exact h3.drop n
theorem Rps.set : ∀ {ds : List D} {vs : List V} {d : D} {v : V} (n : Nat), Rps T F ds vs → Rp T F d v → Rps T F (ds.set n d) (vs.set n v)
  | [], vs, d, v, n, h, g => by
    have h : vs = [] := h
    rw [h] <;> rfl
  | e :: ds, vs, d, v, 0, h, g => by
    obtain ⟨w, r, rfl, h2, h3⟩ := h
    exact ⟨v, r, rfl, g, h3⟩
  | e :: ds, vs, d, v, n + 1, h, g => by
    obtain ⟨w, r, rfl, h2, h3⟩ := h
    exact ⟨w, r.set n v, rfl, h2, h3.set n g⟩
theorem Rps.rev : ∀ {ds : List D} {vs : List V}, Rps T F ds vs → Rps T F ds.reverse vs.reverse
  | [], vs, h => by
    have h : vs = [] := h
    rw [h] <;> rfl
  | e :: ds, vs, h => by
    obtain ⟨w, r, rfl, h2, h3⟩ := h
    rw [List.reverse_cons, List.reverse_cons]
    exact h3.rev.app (.cons h2 .nil)
theorem Rps.ints : ∀ {ns : List Int} {vs : List V}, Rps T F (ns.map D.int) vs → vs = ns.map V.int
  | [], vs, h => h
  | n :: ns, vs, h => by
    obtain ⟨w, r, rfl, h2, h3⟩ := h
    have h2 : w = .int n := h2
    rw [h2, h3.ints] <;> rfl
theorem Rps.ofInts : ∀ (ns : List Int), Rps T F (ns.map D.int) (ns.map V.int)
  | [] => rfl
  | n :: ns => ⟨_, _, rfl, rfl, Rps.ofInts ns⟩
end

/-! ### hiding -/
open Classical in
noncomputable def hid (S : Addr → Prop) (H : Hp) : Hp := fun a => if S a then none else H a
section
variable {S S' : Addr → Prop} {H H' F : Hp} {a : Addr} {o : HO}
theorem hid_in (h : S a) : hid S H a = none := by
  unfold hid
  rw [if_pos h]
theorem hid_out (h : ¬ S a) : hid S H a = H a := by
  unfold hid
  rw [if_neg h]
theorem hid_some (h : hid S H a = some o) : H a = some o ∧ ¬ S a := by
  by_cases q : S a
  · rw [hid_in q] at h
    cases h
  · rw [hid_out q] at h
    exact ⟨h, q⟩
theorem hid_sub : Sub (hid S H) H := fun _ _ h => (hid_some h).1
theorem hid_mono (h : ∀ a, S' a → S a ∨ H a = none) : Sub (hid S H) (hid S' H) := fun b o e => by
  obtain ⟨e1, e2⟩ := hid_some e
  have n : ¬ S' b := fun q => by
    rcases h b q with z | z
    · exact e2 z
    · rw [z] at e1
      cases e1
  rw [hid_out n]
  exact e1
/-- from one heap to a later one, what is hidden later was hidden or not there -/
theorem hid_step (k : ∀ b o, H b = some o → ¬ S b → H' b = some o) (h : ∀ a, S' a → S a ∨ H a = none) : Sub (hid S H) (hid S' H') := fun b o e => by
  obtain ⟨e1, e2⟩ := hid_some e
  have n : ¬ S' b := fun q => by
    rcases h b q with z | z
    · exact e2 z
    · rw [z] at e1
      cases e1
  rw [hid_out n]
  exact k b o e1 e2
end
end DL
set_option Elab.async false
set_option linter.all false
set_option maxRecDepth 100000
set_option maxHeartbeats 2000000
/-! # The data layer, part 1: slots that hold trees, owned lists, the pen; results and outcomes -/
namespace DL
open PySem PySem.Spec PyProof.Rows L2

structure Pen where
  cells : List Int
  at_ : Int
  digits : Int
  count : Int
  fold : Int
def penKvs (ac : Addr) (p : Pen) : List (Key × V) :=
  [(.inr "cells", .ref ac), (.inr "at", .int p.at_), (.inr "digits", .int p.digits), (.inr "count", .int p.count), (.inr "fold", .int p.fold)]
/-- the pen stands at T.W (if there is one) as p says; it and its cells are hidden from all else -/
def Pen0 (T : Tx) (Mo : Addr → Prop) (p : Option Pen) (H : Hp) : Prop :=
  match T.W, p with
  | none, none => True
  | some a, some q => H a = some (.dK (penKvs T.Wc q)) ∧ H T.Wc = some (.lst (q.cells.map V.int)) ∧ Mo a ∧ Mo T.Wc ∧ T.Wc ≠ a
  | _, _ => False
/-- a table of code objects, none of which is hidden -/
def TabM (Mo : Addr → Prop) (H : Hp) (a : Addr) (q : Str) : Prop := ∃ ps : Array Value, H a = some (.tbl ps) ∧ TriplesOk ps.toList ∧ ∀ (pos : Pos) (cv : Value), codeAmong pos ps.toList = some cv → ∃ c, cv = .ref c ∧ H c = some (LamX.CodeO c q) ∧ ¬ Mo c
theorem TabM.sub {Mo : Addr → Prop} {H H' : Hp} {a : Addr} {q : Str} (t : TabM Mo H a q) (e : Sub H H') : TabM Mo H' a q := by
  obtain ⟨ps, h1, h2, h3⟩ := t
  refine ⟨ps, e _ _ h1, h2, fun pos cv hc => ?_⟩
  obtain ⟨c, e1, e2, e3⟩ := h3 pos cv hc
  exact ⟨c, e1, e _ _ e2, e3⟩
theorem TabM.mo {Mo Mo' : Addr → Prop} {H : Hp} {a : Addr} {q : Str} (t : TabM Mo H a q) (k : ∀ c q, H c = some (LamX.CodeO c q) → Mo' c → Mo c) : TabM Mo' H a q := by
  obtain ⟨ps, h1, h2, h3⟩ := t
  refine ⟨ps, h1, h2, fun pos cv hc => ?_⟩
  obtain ⟨c, e1, e2, e3⟩ := h3 pos cv hc
  exact ⟨c, e1, e2, fun z => e3 (k c q e2 z)⟩
/-- the tables of code objects -/
def TabR (T : Tx) (Mo : Addr → Prop) (H : Hp) : Prop := ∀ a q, (a, q) ∈ T.tb → Mo a ∧ TabM Mo H a q
structure PenRep (T : Tx) (Mo : Addr → Prop) (p : Option Pen) (H : Hp) : Prop where
  pen : Pen0 T Mo p H
  tab : TabR T Mo H

/-! ### owned trees: v is the tree d to the depth n by lists of its own, at as; below them all lies in F -/
def OwnRs (R : D → V → List Addr → Prop) : List D → List V → List Addr → Prop
  | [], vs, as => vs = [] ∧ as = []
  | d :: ds, vs, as => ∃ v r a1 a2, vs = v :: r ∧ as = a1 ++ a2 ∧ R d v a1 ∧ OwnRs R ds r a2
def OwnR (T : Tx) (F H : Hp) : Nat → D → V → List Addr → Prop
  | 0, d, v, as => as = [] ∧ Rp T F d v
  | n + 1, .lst ds, v, as => ∃ a vs bs, v = .ref a ∧ as = a :: bs ∧ H a = some (.lst vs) ∧ OwnRs (OwnR T F H n) ds vs bs
  | n + 1, .dic ks es, v, as => ∃ a kvs bs, v = .ref a ∧ as = a :: bs ∧ H a = some (.dK kvs) ∧ Rps T F ks (kvs.map fun kv => kV kv.1) ∧ OwnRs (OwnR T F H n) es (kvs.map fun kv => kv.2) bs
  | _ + 1, d, v, as => as = [] ∧ Rp T F d v

theorem OwnRs.imp {R R' : D → V → List Addr → Prop} : ∀ {ds : List D} {vs : List V} {as : List Addr}, OwnRs R ds vs as → (∀ d v bs, (∀ b ∈ bs, b ∈ as) → R d v bs → R' d v bs) → OwnRs R' ds vs as
  | [], _, _, h, _ => h
  | d :: ds, vs, as, h, k => by
    obtain ⟨v, r, a1, a2, h1, h2, h3, h4⟩ := h
    refine ⟨v, r, a1, a2, h1, h2, k _ _ _ (fun b hb => by rw [h2]; exact List.mem_append_left _ hb) h3, h4.imp fun d v bs hb q => k d v bs (fun b z => by rw [h2]; exact List.mem_append_right _ (hb b z)) q⟩
theorem OwnRs.rps {T : Tx} {G : Hp} {R : D → V → List Addr → Prop} : ∀ {ds : List D} {vs : List V} {as : List Addr}, OwnRs R ds vs as → (∀ d v bs, (∀ b ∈ bs, b ∈ as) → R d v bs → Rp T G d v) → Rps T G ds vs
  | [], _, _, h, _ => h.1
  | d :: ds, vs, as, h, k => by
    obtain ⟨v, r, a1, a2, h1, h2, h3, h4⟩ := h
    refine ⟨v, r, h1, k _ _ _ (fun b hb => by rw [h2]; exact List.mem_append_left _ hb) h3, h4.rps fun d v bs hb q => k d v bs (fun b z => by rw [h2]; exact List.mem_append_right _ (hb b z)) q⟩
theorem OwnRs.len {R : D → V → List Addr → Prop} : ∀ {ds : List D} {vs : List V} {as : List Addr}, OwnRs R ds vs as → ds.length = vs.length
  | [], _, _, h => by rw [h.1] <;> rfl
  | d :: ds, vs, as, h => by
    obtain ⟨v, r, a1, a2, rfl, _, _, h4⟩ := h
    rw [List.length_cons, List.length_cons, h4.len]
theorem OwnRs.of0 {T : Tx} {F H : Hp} : ∀ {ds : List D} {vs : List V}, Rps T F ds vs → OwnRs (OwnR T F H 0) ds vs []
  | [], _, h => ⟨h, rfl⟩
  | d :: ds, vs, h => by
    obtain ⟨v, r, h1, h2, h3⟩ := h
    exact ⟨v, r, [], [], h1, rfl, ⟨rfl, h2⟩, OwnRs.of0 h3⟩
theorem OwnRs.app {R : D → V → List Addr → Prop} : ∀ {ds es : List D} {vs ws : List V} {as bs : List Addr}, OwnRs R ds vs as → OwnRs R es ws bs → OwnRs R (ds ++ es) (vs ++ ws) (as ++ bs)
  | [], es, vs, ws, as, bs, h, g => by
    rw [h.1, h.2]
    exact g
  | d :: ds, es, vs, ws, as, bs, h, g => by
    obtain ⟨v, r, a1, a2, rfl, rfl, h3, h4⟩ := h
    exact ⟨v, r ++ ws, a1, a2 ++ bs, rfl, by rw [List.append_assoc], h3, h4.app g⟩

theorem OwnR.step {T : Tx} {F F' H H' : Hp} (e : Sub F F') : ∀ (n : Nat) {d : D} {v : V} {as : List Addr}, OwnR T F H n d v as → (∀ a ∈ as, ∀ o, H a = some o → H' a = some o) → OwnR T F' H' n d v as
  | 0, d, v, as, h, k => ⟨h.1, Rp.sub e d h.2⟩
  | n + 1, d, v, as, h, k => by
    cases d with
    | lst ds =>
      obtain ⟨a, vs, bs, h1, h2, h3, h4⟩ := h
      refine ⟨a, vs, bs, h1, h2, k a (by rw [h2]; exact List.mem_cons_self) _ h3, h4.imp fun d v cs hc q => OwnR.step e n q fun b hb => k b (by rw [h2]; exact List.mem_cons_of_mem _ (hc b hb))⟩
    | dic ks es =>
      obtain ⟨a, kvs, bs, h1, h2, h3, h4, h5⟩ := h
      refine ⟨a, kvs, bs, h1, h2, k a (by rw [h2]; exact List.mem_cons_self) _ h3, Rps.sub e _ h4, h5.imp fun d v cs hc q => OwnR.step e n q fun b hb => k b (by rw [h2]; exact List.mem_cons_of_mem _ (hc b hb))⟩
    | non => exact ⟨h.1, Rp.sub e _ h.2⟩
    | bl b => exact ⟨h.1, Rp.sub e _ h.2⟩
    | int i => exact ⟨h.1, Rp.sub e _ h.2⟩
    | str x => exact ⟨h.1, Rp.sub e _ h.2⟩
    | tup xs => exact ⟨h.1, Rp.sub e _ h.2⟩
    | obj c fs => exact ⟨h.1, Rp.sub e _ h.2⟩
    | fn n => exact ⟨h.1, Rp.sub e _ h.2⟩
    | ty n => exact ⟨h.1, Rp.sub e _ h.2⟩
    | clo n => exact ⟨h.1, Rp.sub e _ h.2⟩
    | pen => exact ⟨h.1, Rp.sub e _ h.2⟩
/-- all of it may be read where F and its own lists stand -/
theorem OwnR.rp {T : Tx} {F G H : Hp} (e : Sub F G) : ∀ (n : Nat) {d : D} {v : V} {as : List Addr}, OwnR T F H n d v as → (∀ a ∈ as, ∀ o, H a = some o → G a = some o) → Rp T G d v
  | 0, d, v, as, h, k => Rp.sub e d h.2
  | n + 1, d, v, as, h, k => by
    cases d with
    | lst ds =>
      obtain ⟨a, vs, bs, h1, h2, h3, h4⟩ := h
      refine ⟨a, vs, h1, k a (by rw [h2]; exact List.mem_cons_self) _ h3, h4.rps fun d v cs hc q => OwnR.rp e n q fun b hb => k b (by rw [h2]; exact List.mem_cons_of_mem _ (hc b hb))⟩
    | dic ks es =>
      obtain ⟨a, kvs, bs, h1, h2, h3, h4, h5⟩ := h
      refine ⟨a, kvs, h1, k a (by rw [h2]; exact List.mem_cons_self) _ h3, Rps.sub e _ h4, h5.rps fun d v cs hc q => OwnR.rp e n q fun b hb => k b (by rw [h2]; exact List.mem_cons_of_mem _ (hc b hb))⟩
    | non => exact Rp.sub e _ h.2
    | bl b => exact Rp.sub e _ h.2
    | int i => exact Rp.sub e _ h.2
    | str x => exact Rp.sub e _ h.2
    | tup xs => exact Rp.sub e _ h.2
    | obj c fs => exact Rp.sub e _ h.2
    | fn n => exact Rp.sub e _ h.2
    | ty n => exact Rp.sub e _ h.2
    | clo n => exact Rp.sub e _ h.2
    | pen => exact Rp.sub e _ h.2
/-- its own lists stand there -/
theorem OwnR.there {T : Tx} {F H : Hp} : ∀ (n : Nat) {d : D} {v : V} {as : List Addr}, OwnR T F H n d v as → ∀ a ∈ as, H a ≠ none
  | 0, d, v, as, h, a, ha => by
    rw [h.1] at ha
    cases ha
  | n + 1, d, v, as, h, a, ha => by
    have rs : ∀ {ds : List D} {vs : List V} {bs : List Addr}, OwnRs (OwnR T F H n) ds vs bs → ∀ a ∈ bs, H a ≠ none := by
      intro ds
      induction ds with
      | nil =>
        intro vs bs h a ha
        rw [h.2] at ha
        cases ha
      | cons d ds ih =>
        intro vs bs h a ha
        obtain ⟨v, r, a1, a2, h1, h2, h3, h4⟩ := h
        rw [h2] at ha
        rcases List.mem_append.mp ha with z | z
        · exact OwnR.there n h3 a z
        · exact ih h4 a z
    have no : as = [] → H a ≠ none := fun e => by
      rw [e] at ha
      cases ha
    cases d with
    | lst ds =>
      obtain ⟨a', vs, bs, h1, h2, h3, h4⟩ := h
      rw [h2] at ha
      rcases List.mem_cons.mp ha with z | z
      · rw [z, h3]
        exact fun q => nomatch q
      · exact rs h4 a z
    | dic ks es =>
      obtain ⟨a', kvs, bs, h1, h2, h3, h4, h5⟩ := h
      rw [h2] at ha
      rcases List.mem_cons.mp ha with z | z
      · rw [z, h3]
        exact fun q => nomatch q
      · exact rs h5 a z
    | non => exact no h.1
    | bl b => exact no h.1
    | int i => exact no h.1
    | str x => exact no h.1
    | tup xs => exact no h.1
    | obj c fs => exact no h.1
    | fn n => exact no h.1
    | ty n => exact no h.1
    | clo n => exact no h.1
    | pen => exact no h.1

/-! ### trees without lists: nothing of them is owned -/
mutual
def lf : D → Bool
  | .lst _ => false
  | .dic _ _ => false
  | .clo _ => false
  | .tup ds => lfs ds
  | .obj _ fs => lfs fs
  | _ => true
def lfs : List D → Bool
  | [] => true
  | d :: ds => lf d && lfs ds
end
def isLD : HO → Prop
  | .lst _ => True
  | .dK _ => True
  | _ => False
section
variable {T : Tx} {H : Hp} {S S' : Addr → Prop}
theorem hid_lf {a : Addr} {o : HO} (k : ∀ a o, H a = some o → S' a → ¬ S a → isLD o) (h : hid S H a = some o) (n : ¬ isLD o) : hid S' H a = some o := by
  obtain ⟨h1, h2⟩ := hid_some h
  rw [hid_out]
  · exact h1
  · exact fun z => n (k a o h1 z h2)
mutual
theorem Rp.lf (k : ∀ a o, H a = some o → S' a → ¬ S a → isLD o) : ∀ (d : D) {v : V}, lf d = true → Rp T (hid S H) d v → Rp T (hid S' H) d v
  | .non, _, _, h => h
  | .bl _, _, _, h => h
  | .int _, _, _, h => h
  | .str _, _, _, h => h
  | .tup ds, v, e, h => by
    obtain ⟨a, vs, h1, h2, h3⟩ := h
    refine ⟨a, vs, h1, ?_, Rps.lf k ds e h3⟩
    rcases h2 with (h2 | ⟨o, h2⟩) | h2
    · exact .inl (.inl (hid_lf k h2 id))
    · exact .inl (.inr ⟨o, hid_lf k h2 id⟩)
    · exact .inr h2
  | .lst ds, v, e, h => nomatch e
  | .dic ks es, v, e, h => nomatch e
  | .obj c fs, v, e, h => by
    obtain ⟨a, dx, vs, h1, h2, h3, h4⟩ := h
    exact ⟨a, dx, vs, h1, hid_lf k h2 id, h3, Rps.lf k fs e h4⟩
  | .fn _, _, _, h => h
  | .ty _, _, _, h => h
  | .clo n, v, e, h => nomatch e
  | .pen, _, _, h => h
theorem Rps.lf (k : ∀ a o, H a = some o → S' a → ¬ S a → isLD o) : ∀ (ds : List D) {vs : List V}, lfs ds = true → Rps T (hid S H) ds vs → Rps T (hid S' H) ds vs
  | [], _, _, h => h
  | d :: ds, vs, e, h => by
    obtain ⟨v, r, h1, h2, h3⟩ := h
    have e := (Bool.and_eq_true _ _).mp e
    exact ⟨v, r, h1, Rp.lf k d e.1 h2, Rps.lf k ds e.2 h3⟩
end
/-- its own things are lists and dicts -/
theorem OwnR.ld {F : Hp} : ∀ (n : Nat) {d : D} {v : V} {as : List Addr}, OwnR T F H n d v as → ∀ a ∈ as, ∃ o, H a = some o ∧ isLD o
  | 0, d, v, as, h, a, ha => by
    rw [h.1] at ha
    cases ha
  | n + 1, d, v, as, h, a, ha => by
    have rs : ∀ {ds : List D} {vs : List V} {bs : List Addr}, OwnRs (OwnR T F H n) ds vs bs → ∀ a ∈ bs, ∃ o, H a = some o ∧ isLD o := by
      intro ds
      induction ds with
      | nil =>
        intro vs bs h a ha
        rw [h.2] at ha
        cases ha
      | cons d ds ih =>
        intro vs bs h a ha
        obtain ⟨v, r, a1, a2, h1, h2, h3, h4⟩ := h
        rw [h2] at ha
        rcases List.mem_append.mp ha with z | z
        · exact OwnR.ld n h3 a z
        · exact ih h4 a z
    have no : as = [] → ∃ o, H a = some o ∧ isLD o := fun e => by
      rw [e] at ha
      cases ha
    cases d with
    | lst ds =>
      obtain ⟨a', vs, bs, h1, h2, h3, h4⟩ := h
      rw [h2] at ha
      rcases List.mem_cons.mp ha with z | z
      · rw [z]
        exact ⟨_, h3, trivial⟩
      · exact rs h4 a z
    | dic ks es =>
      obtain ⟨a', kvs, bs, h1, h2, h3, h4, h5⟩ := h
      rw [h2] at ha
      rcases List.mem_cons.mp ha with z | z
      · rw [z]
        exact ⟨_, h3, trivial⟩
      · exact rs h5 a z
    | non => exact no h.1
    | bl b => exact no h.1
    | int i => exact no h.1
    | str x => exact no h.1
    | tup xs => exact no h.1
    | obj c fs => exact no h.1
    | fn n => exact no h.1
    | ty n => exact no h.1
    | clo n => exact no h.1
    | pen => exact no h.1
end

/-! ### slots -/
structure Cell where
  d : D
  o : Nat
abbrev Env := List (Option Cell)
/-- hidden: what the callers own (Mo), what the slots but those in b own -/
def Hd (Mo : Addr → Prop) (fp : Nat → List Addr) (b : List Nat) : Addr → Prop := fun a => Mo a ∨ ∃ i, i ∉ b ∧ a ∈ fp i
theorem Hd.mono {Mo : Addr → Prop} {fp : Nat → List Addr} {b b' : List Nat} (h : ∀ i ∈ b, i ∈ b') {a : Addr} (x : Hd Mo fp b' a) : Hd Mo fp b a := by
  rcases x with x | ⟨i, h1, h2⟩
  · exact .inl x
  · exact .inr ⟨i, fun z => h1 (h i z), h2⟩
/-- a cell that is known to its object -/
def celO (a : Addr) (o : Obj) : HO := .frz o (.ext fun h => h.get? a = some o)
/-- what the lambdas lean on -/
structure Cap (T : Tx) (Mo : Addr → Prop) (H0 : Hp) : Prop where
  c : Sub T.C (hid Mo H0)
  z : Sub T.Z H0
  f : ∀ a u, T.Z a = some u → ∃ o, u = celO a o
/-- the state: the slots' trees, the pen; what stands in the base H0 (not the pen) stays, and no slot owns it -/
structure SRep (T : Tx) (H0 : Hp) (Mo : Addr → Prop) (fp : Nat → List Addr) (ρ : Env) (p : Option Pen) (σ : L2.St) (H : Hp) : Prop where
  len : ρ.length = σ.length
  pen : PenRep T Mo p H
  mo : ∀ a, Mo a → H a ≠ none
  grow : Sub H0 H
  pb : ∀ a, T.sp a → H0 a = none
  cap : Cap T Mo H0
  fresh : ∀ i a, a ∈ fp i → H0 a = none ∧ ¬ Mo a
  nod : ∀ i, (fp i).Nodup
  dis : ∀ i j a, a ∈ fp i → a ∈ fp j → i = j
  cell : ∀ i c, ρ[i]? = some (some c) → ∃ v, σ[i]? = some (some v) ∧ OwnR T (hid (Hd Mo fp []) H) H c.o c.d v (fp i)
  none_ : ∀ i, (∀ c, ρ[i]? ≠ some (some c)) → fp i = []

/-- a growth: all but the pen stays -/
def Gr (T : Tx) (H H' : Hp) : Prop := ∀ a o, H a = some o → ¬ T.sp a → H' a = some o
theorem Gr.refl {T : Tx} (H : Hp) : Gr T H H := fun _ _ h _ => h
theorem Gr.trans {T : Tx} {H H1 H2 : Hp} (a : Gr T H H1) (b : Gr T H1 H2) : Gr T H H2 := fun x o h n => b x o (a x o h n) n
theorem Gr.of {T : Tx} {H H' : Hp} (s : Sub H H') : Gr T H H' := fun a o h _ => s a o h
theorem Sub.new {H : Hp} {p : Addr} {o : HO} (h : H p = none) : Sub H (upd H p o) := fun a u e => by
  rw [upd_ne (ne_of_none e h)]
  exact e
theorem Gr.back {T : Tx} {H H' : Hp} (g : Gr T H H') {a : Addr} (h : H' a = none) (w : ¬ T.sp a) : H a = none := by
  cases e : H a with
  | none => rfl
  | some o =>
    rw [g a o e w] at h
    cases h

section
variable {T : Tx} {H0 H H' : Hp} {Mo : Addr → Prop} {fp : Nat → List Addr} {ρ : Env} {p p' : Option Pen} {σ : L2.St}
theorem PenRep.mo (x : PenRep T Mo p H) {a : Addr} (e : T.sp a) : Mo a ∧ H a ≠ none := by
  rcases e with e | ⟨q, e⟩
  · have x := x.pen
    unfold Pen0 at x
    rw [e] at x
    cases p with
    | none => exact x.elim
    | some q =>
      obtain ⟨h1, _, h3, _⟩ := x
      refine ⟨h3, ?_⟩
      rw [h1]
      exact fun z => nomatch z
  · obtain ⟨h1, ps, h2, _⟩ := x.tab a q e
    refine ⟨h1, ?_⟩
    rw [h2]
    exact fun z => nomatch z
theorem SRep.there (s : SRep T H0 Mo fp ρ p σ H) {i : Nat} {a : Addr} (h : a ∈ fp i) : H a ≠ none := by
  by_cases q : ∃ c, ρ[i]? = some (some c)
  · obtain ⟨c, e⟩ := q
    obtain ⟨v, _, r⟩ := s.cell i c e
    exact r.there _ a h
  · have z := s.none_ i fun c e => q ⟨c, e⟩
    rw [z] at h
    cases h
theorem SRep.ld (s : SRep T H0 Mo fp ρ p σ H) : ∀ i a, a ∈ fp i → ∃ o, H a = some o ∧ isLD o := fun i a h => by
  by_cases q : ∃ c, ρ[i]? = some (some c)
  · obtain ⟨c, e⟩ := q
    obtain ⟨v, _, r⟩ := s.cell i c e
    exact r.ld _ a h
  · have z := s.none_ i fun c e => q ⟨c, e⟩
    rw [z] at h
    cases h
theorem SRep.hdThere (s : SRep T H0 Mo fp ρ p σ H) {b : List Nat} {a : Addr} (h : Hd Mo fp b a) : H a ≠ none := by
  rcases h with h | ⟨i, _, h⟩
  · exact s.mo a h
  · exact s.there h
theorem SRep.penHd (s : SRep T H0 Mo fp ρ p σ H) {b : List Nat} {a : Addr} (h : T.sp a) : Hd Mo fp b a := .inl (s.pen.mo h).1
/-- frozen facts go along -/
theorem Gr.hid (g : Gr T H H') (x : PenRep T Mo p H) {b b' : List Nat} (h : ∀ i ∈ b, i ∈ b') : Sub (hid (Hd Mo fp b) H) (hid (Hd Mo fp b') H') :=
  hid_step (fun a o e n => g a o e fun z => n (.inl (x.mo z).1)) fun a z => .inl (z.mono h)
theorem SRep.grows (s : SRep T H0 Mo fp ρ p σ H) (g : Gr T H H') (x : PenRep T Mo p' H') : SRep T H0 Mo fp ρ p' σ H' := by
  refine ⟨s.len, x, fun a h => ?_, fun a o e => g a o (s.grow a o e) fun z => (by rw [s.pb a z] at e; cases e), s.pb, s.cap, s.fresh, s.nod, s.dis, fun i c e => ?_, s.none_⟩
  · by_cases z : T.sp a
    · exact (x.mo z).2
    · cases e : H a with
      | none => exact absurd e (s.mo a h)
      | some o =>
        rw [g a o e z]
        exact fun q => nomatch q
  · obtain ⟨v, e1, e2⟩ := s.cell i c e
    refine ⟨v, e1, e2.step (g.hid s.pen fun _ z => z) _ fun a ha o ho => g a o ho fun z => (s.fresh i a ha).2 (s.pen.mo z).1⟩
end

/-! ### what an expression gives: the tree; b, c: the slots whose own lists it is, or holds; f: how deep its lists are new -/
structure Z where
  d : D
  b : List Nat
  c : List Nat
  f : Nat
abbrev Z.lo (z : Z) : List Nat := z.b ++ z.c
/-- a scalar -/
abbrev zS (d : D) : Z := ⟨d, [], [], 0⟩

/-- its root stands in Fb, all else in Fc -/
def Rp2 (T : Tx) (Fb Fc : Hp) : D → V → Prop
  | .tup ds, v => ∃ a vs, v = .ref a ∧ SqT T.K Fb a vs ∧ Rps T Fc ds vs
  | .lst ds, v => ∃ a vs, v = .ref a ∧ Fb a = some (.lst vs) ∧ Rps T Fc ds vs
  | .dic ks es, v => ∃ a kvs, v = .ref a ∧ Fb a = some (.dK kvs) ∧ Rps T Fc ks (kvs.map fun kv => kV kv.1) ∧ Rps T Fc es (kvs.map fun kv => kv.2)
  | .obj c fs, v => ∃ a dx vs, v = .ref a ∧ Fb a = some (.ins (T.ca c) dx ((T.cf c).zip vs)) ∧ (T.cf c).length = vs.length ∧ Rps T Fc fs vs
  | d, v => Rp T Fb d v
theorem Rp2.sub {T : Tx} {Fb Fc Gb Gc : Hp} (e : Sub Fb Gb) (g : Sub Fc Gc) {d : D} {v : V} (h : Rp2 T Fb Fc d v) : Rp2 T Gb Gc d v := by
  cases d with
  | tup ds =>
    obtain ⟨a, vs, h1, h2, h3⟩ := h
    exact ⟨a, vs, h1, e.sqt h2, Rps.sub g ds h3⟩
  | lst ds =>
    obtain ⟨a, vs, h1, h2, h3⟩ := h
    exact ⟨a, vs, h1, e _ _ h2, Rps.sub g ds h3⟩
  | dic ks es =>
    obtain ⟨a, kvs, h1, h2, h3, h4⟩ := h
    exact ⟨a, kvs, h1, e _ _ h2, Rps.sub g ks h3, Rps.sub g es h4⟩
  | obj c fs =>
    obtain ⟨a, dx, vs, h1, h2, h3, h4⟩ := h
    exact ⟨a, dx, vs, h1, e _ _ h2, h3, Rps.sub g fs h4⟩
  | non => exact Rp.sub e _ h
  | bl b => exact Rp.sub e _ h
  | int i => exact Rp.sub e _ h
  | str x => exact Rp.sub e _ h
  | fn n => exact Rp.sub e _ h
  | ty n => exact Rp.sub e _ h
  | clo n => exact Rp.sub e _ h
  | pen => exact Rp.sub e _ h
theorem Rp2.rp {T : Tx} {Fb Fc G : Hp} (e : Sub Fb G) (g : Sub Fc G) {d : D} {v : V} (h : Rp2 T Fb Fc d v) : Rp T G d v := by
  have h := h.sub e g
  cases d <;> exact h
theorem Rp2.of {T : Tx} {F : Hp} {d : D} {v : V} (h : Rp T F d v) : Rp2 T F F d v := by
  cases d <;> exact h

structure ZRep (T : Tx) (Mo : Addr → Prop) (fp : Nat → List Addr) (Hs : Hp) (z : Z) (v : V) (H : Hp) : Prop where
  val : Rp2 T (hid (Hd Mo fp z.b) H) (hid (Hd Mo fp z.c) H) z.d v
  own : z.f ≠ 0 → ∃ as, OwnR T (hid (fun a => Hd Mo fp z.c a ∨ a ∈ as) H) H z.f z.d v as ∧ as.Nodup ∧ ∀ a ∈ as, Hs a = none

inductive R (α : Type) where
  | ok (a : α) (p : Option Pen)
  | exc (c : Nat) (fs : List D) (p : Option Pen)
  | bad
def R.bind {α β : Type} (r : R α) (k : α → Option Pen → R β) : R β :=
  match r with
  | .ok a p => k a p
  | .exc c fs p => .exc c fs p
  | .bad => .bad
abbrev M (α : Type) := Env → Option Pen → R α

/-- an exception that is raised: of the class c, with the fields fs -/
def XPost (T : Tx) (Wx : WX) (H0 : Hp) (Mo : Addr → Prop) (c : Nat) (fs : List D) (p : Option Pen) : Prop :=
  ∀ σ H d vs, Sub H0 H → PenRep T Mo p H → (∀ a, Mo a → H a ≠ none) → H d = some (.xd ((T.cf c).zip vs)) → (T.cf c).length = vs.length → Rps T (hid Mo H) fs vs → Wx (.ref (T.ca c)) (some d) σ H
def EPost (T : Tx) (Wx : WX) (H0 : Hp) (Mo : Addr → Prop) (fp : Nat → List Addr) (Hs H : Hp) (r : R Z) (Q : Z → Option Pen → V → Hp → Prop) : Prop :=
  match r with
  | .ok z p => ∀ v H', Gr T H H' → PenRep T Mo p H' → ZRep T Mo fp Hs z v H' → Q z p v H'
  | .exc c fs p => XPost T Wx H0 Mo c fs p
  | .bad => False
/-- the reading of an expression that gives what m says -/
def upE (T : Tx) (Wx : WX) (m : M Z) : TE := fun σ H Q => ∃ H0 Mo fp ρ p, SRep T H0 Mo fp ρ p σ H ∧ EPost T Wx H0 Mo fp H H (m ρ p) fun _ _ v H' => Q v H'
abbrev DE (X : Cx) (T : Tx) (Wx : WX) (e : Expr) (m : M Z) : Prop := PE X e (upE T Wx m)

theorem _root_.L2.PE.mono {X : Cx} {e : Expr} {t t' : TE} (h : PE X e t) (k : ∀ σ H Q, t' σ H Q → t σ H Q) : PE X e t' := ⟨fun pins s σ H Q I q => h.run pins s σ H Q I (k σ H Q q)⟩
theorem _root_.L2.PA.mono {X : Cx} {e : List Expr} {t t' : TA} (h : PA X e t) (k : ∀ σ H Q, t' σ H Q → t σ H Q) : PA X e t' := ⟨fun pos pins s σ H Q I q => h.run pos pins s σ H Q I (k σ H Q q)⟩
theorem _root_.L2.PT.mono {X : Cx} {e : Expr} {t t' : TT} (h : PT X e t) (k : ∀ σ H Q, t' σ H Q → t σ H Q) : PT X e t' := ⟨fun pins s σ H Q I q => h.run pins s σ H Q I (k σ H Q q)⟩
theorem _root_.L2.PS.mono {X : Cx} {e : Stmt} {t t' : TS} (h : PS X e t) (k : ∀ D σ H, t' D σ H → t D σ H) : PS X e t' := ⟨fun pins s σ H D I q => h.run pins s σ H D I (k D σ H q)⟩
theorem _root_.L2.PW.mono {X : Cx} {e : Expr} {t t' : TT} (h : PW X e t) (k : ∀ σ H Q, t' σ H Q → t σ H Q) : PW X e t' := ⟨fun whole pins s σ H Q I q => h.run whole pins s σ H Q I (k σ H Q q)⟩
theorem _root_.L2.PSs.mono {X : Cx} {e : List Stmt} {t t' : TS} (h : PSs X e t) (k : ∀ D σ H, t' D σ H → t D σ H) : PSs X e t' := ⟨fun pins s σ H D I q => h.run pins s σ H D I (k D σ H q)⟩

theorem EPost.imp {T : Tx} {Wx : WX} {H0 : Hp} {Mo : Addr → Prop} {fp : Nat → List Addr} {Hs H : Hp} {r : R Z} {Q Q' : Z → Option Pen → V → Hp → Prop} (h : EPost T Wx H0 Mo fp Hs H r Q)
    (k : ∀ z p v H', r = .ok z p → Gr T H H' → PenRep T Mo p H' → ZRep T Mo fp Hs z v H' → Q z p v H' → Q' z p v H') : EPost T Wx H0 Mo fp Hs H r Q' := by
  cases r with
  | ok z p => exact fun v H' g x zr => k z p v H' rfl g x zr (h v H' g x zr)
  | exc c fs p => exact h
  | bad => exact h

section
variable {T : Tx} {H0 H H' Hs Hs' : Hp} {Mo : Addr → Prop} {fp : Nat → List Addr} {ρ : Env} {p p' : Option Pen} {σ : L2.St} {z : Z} {v : V}
/-- what a result says holds on while the heap grows -/
theorem ZRep.grows (x : ZRep T Mo fp Hs z v H) (g : Gr T H H') (xp : PenRep T Mo p H) (ng : ∀ a, Mo a → Hs a ≠ none) : ZRep T Mo fp Hs z v H' := by
  refine ⟨x.val.sub (g.hid xp fun _ z => z) (g.hid xp fun _ z => z), fun n => ?_⟩
  obtain ⟨as, h1, h2, h3⟩ := x.own n
  have nw : ∀ a ∈ as, ¬ T.sp a := fun a ha e => ng a (xp.mo e).1 (h3 a ha)
  refine ⟨as, h1.step (hid_step (fun a o e q => g a o e fun w => q (.inl (.inl (xp.mo w).1))) fun a q => .inl q) _ fun a ha o ho => g a o ho (nw a ha), h2, h3⟩
/-- new since a later heap is new since an earlier one -/
theorem ZRep.since (x : ZRep T Mo fp Hs z v H) (g : Gr T Hs' Hs) (nw : ∀ a, T.sp a → Hs a ≠ none) : ZRep T Mo fp Hs' z v H := by
  refine ⟨x.val, fun n => ?_⟩
  obtain ⟨as, h1, h2, h3⟩ := x.own n
  exact ⟨as, h1, h2, fun a ha => g.back (h3 a ha) fun e => nw a e (h3 a ha)⟩
theorem hd_mo {b : List Nat} : Sub (hid (Hd Mo fp b) H) (hid Mo H) := hid_mono fun a h => .inl (.inl h)
/-- it may be read where nothing but the callers' own is hidden -/
theorem ZRep.wide (x : ZRep T Mo fp Hs z v H) : Rp T (hid Mo H) z.d v := x.val.rp hd_mo hd_mo
theorem ZRep.full (x : ZRep T Mo fp Hs z v H) : Rp T H z.d v := x.val.rp hid_sub hid_sub
/-- all of it, as far as its slots are named -/
theorem ZRep.all (x : ZRep T Mo fp Hs z v H) {b : List Nat} (h : ∀ i ∈ z.lo, i ∈ b) : Rp T (hid (Hd Mo fp b) H) z.d v :=
  x.val.rp (hid_mono fun a q => .inl (q.mono fun i hi => h i (List.mem_append_left _ hi))) (hid_mono fun a q => .inl (q.mono fun i hi => h i (List.mem_append_right _ hi)))
theorem ZRep.scalar {d : D} (h : ∀ F, Rp T F d v) : ZRep T Mo fp Hs (zS d) v H := ⟨.of (h _), fun n => absurd rfl n⟩

/-- new objects -/
structure Ctx0 (Mo : Addr → Prop) (fp : Nat → List Addr) (H : Hp) : Prop where
  mo : ∀ a, Mo a → H a ≠ none
  own : ∀ i a, a ∈ fp i → H a ≠ none
  ld : ∀ i a, a ∈ fp i → ∃ o, H a = some o ∧ isLD o
theorem SRep.ctx (s : SRep T H0 Mo fp ρ p σ H) : Ctx0 Mo fp H := ⟨s.mo, fun _ _ h => s.there h, s.ld⟩
theorem Ctx0.hd (c : Ctx0 Mo fp H) {b : List Nat} {a : Addr} (h : H a = none) : ¬ Hd Mo fp b a := fun x => by
  rcases x with x | ⟨i, _, x⟩
  · exact c.mo a x h
  · exact c.own i a x h
theorem Ctx0.sub (c : Ctx0 Mo fp H) (s : Sub H H') : Ctx0 Mo fp H' := by
  have k : ∀ a, H a ≠ none → H' a ≠ none := fun a h => by
    cases e : H a with
    | none => exact absurd e h
    | some o =>
      rw [s a o e]
      exact fun q => nomatch q
  exact ⟨fun a h => k a (c.mo a h), fun i a h => k a (c.own i a h), fun i a h => (c.ld i a h).imp fun o q => ⟨s a o q.1, q.2⟩⟩
theorem Ctx0.frz (c : Ctx0 Mo fp H) (s : Sub H H') {b b' : List Nat} (h : ∀ i ∈ b, i ∈ b') : Sub (hid (Hd Mo fp b) H) (hid (Hd Mo fp b') H') :=
  hid_step (fun a o e n => s a o e) fun a z => .inl (z.mono h)
/-- trees without lists do not lean on slots -/
theorem Ctx0.lf (c : Ctx0 Mo fp H) {b b' : List Nat} {ds : List D} {vs : List V} (e : lfs ds = true) (h : Rps T (hid (Hd Mo fp b) H) ds vs) : Rps T (hid (Hd Mo fp b') H) ds vs :=
  Rps.lf (fun a o ho hs hn => by
    rcases hs with z | ⟨i, _, z⟩
    · exact absurd (.inl z) hn
    · obtain ⟨o', h1, h2⟩ := c.ld i a z
      rw [ho] at h1
      cases h1
      exact h2) ds e h
theorem Ctx0.newTup (c : Ctx0 Mo fp H) {q : Addr} {ds : List D} {vs : List V} {b : List Nat} (nq : H q = none) (h : Rps T (hid (Hd Mo fp b) H) ds vs) : ZRep T Mo fp H ⟨.tup ds, [], b, 0⟩ (.ref q) (upd H q (.tup vs)) := by
  refine ⟨⟨q, vs, rfl, .of ?_, Rps.sub (c.frz (.new nq) fun _ z => z) ds h⟩, fun n => absurd rfl n⟩
  rw [hid_out (c.hd nq), upd_same]
theorem Ctx0.newLst (c : Ctx0 Mo fp H) {q : Addr} {ds : List D} {vs : List V} {b : List Nat} (nq : H q = none) (h : Rps T (hid (Hd Mo fp b) H) ds vs) : ZRep T Mo fp H ⟨.lst ds, [], b, 1⟩ (.ref q) (upd H q (.lst vs)) := by
  refine ⟨⟨q, vs, rfl, ?_, Rps.sub (c.frz (.new nq) fun _ z => z) ds h⟩, fun n => ⟨[q], ⟨q, vs, [], rfl, rfl, upd_same, .of0 (Rps.sub ?_ ds h)⟩, by simp, fun a ha => ?_⟩⟩
  · rw [hid_out (c.hd nq), upd_same]
  · refine hid_step (fun a o e n => Sub.new nq a o e) fun a z => ?_
    rcases z with z | z
    · exact .inl z
    · have e : a = q := by simpa using z
      rw [e]
      exact .inr nq
  · have e : a = q := by simpa using ha
    rw [e]
    exact nq
end
end DL
set_option Elab.async false
set_option linter.all false
set_option maxRecDepth 100000
set_option maxHeartbeats 2000000
/-! # The data layer, part 2: names, constants, displays, operators, tests -/
namespace DL
open PySem PySem.Spec PyProof.Rows L2

abbrev LIM : Nat := 1000000
theorem lim_le {n : Nat} (h : n ≤ LIM) : n ≤ sizeLine := Nat.le_trans h (by decide +kernel)
theorem lim_lt {n : Nat} (h : n < LIM) : n < sizeLine := Nat.lt_of_lt_of_le h (by decide +kernel)

section
variable {T : Tx} {Wx : WX} {H0 H H' Hs Hs' : Hp} {Mo : Addr → Prop} {fp : Nat → List Addr} {ρ : Env} {p p' : Option Pen} {σ : L2.St} {z : Z} {v : V}
theorem PenRep.sub (x : PenRep T Mo p H) (s : Sub H H') : PenRep T Mo p H' := by
  refine ⟨?_, fun a q h => ⟨(x.tab a q h).1, (x.tab a q h).2.sub s⟩⟩
  have x := x.pen
  unfold Pen0 at x ⊢
  cases hW : T.W with
  | none =>
    rw [hW] at x
    cases p with
    | none => trivial
    | some q => exact x.elim
  | some a =>
    rw [hW] at x
    cases p with
    | none => exact x.elim
    | some q =>
      obtain ⟨h1, h2, h3⟩ := x
      exact ⟨s _ _ h1, s _ _ h2, h3⟩
theorem EPost.rebase {r : R Z} {Q : Z → Option Pen → V → Hp → Prop} (h : EPost T Wx H0 Mo fp Hs H r Q) (g : Gr T H H') : EPost T Wx H0 Mo fp Hs H' r Q := by
  cases r with
  | ok z p => exact fun v H2 g2 x zr => h v H2 (g.trans g2) x zr
  | exc c fs p => exact h
  | bad => exact h
theorem EPost.bind {r : R Z} {k : Z → Option Pen → R Z} {Q : Z → Option Pen → V → Hp → Prop} (h : EPost T Wx H0 Mo fp Hs H (r.bind k) Q) : EPost T Wx H0 Mo fp Hs H r fun x p1 _ H1 => EPost T Wx H0 Mo fp Hs H1 (k x p1) Q := by
  cases r with
  | ok z p => exact fun v H1 g x zr => EPost.rebase h g
  | exc c fs p => exact h
  | bad => exact h.elim
/-- what a part gives, from its own start -/
theorem EPost.part {r : R Z} {Q : Z → Option Pen → V → Hp → Prop} (h : EPost T Wx H0 Mo fp Hs H r Q) (g : Gr T Hs H) (nw : ∀ a, T.sp a → H a ≠ none) : EPost T Wx H0 Mo fp H H r Q := by
  cases r with
  | ok z p => exact fun v H2 g2 x zr => h v H2 g2 x (zr.since g nw)
  | exc c fs p => exact h
  | bad => exact h
theorem SRep.nw (s : SRep T H0 Mo fp ρ p σ H) : ∀ a, T.sp a → H a ≠ none := fun a e => (s.pen.mo e).2
end

theorem R.bind_ok {α β : Type} {r : R α} {k : α → Option Pen → R β} {z : β} {p : Option Pen} (e : r.bind k = .ok z p) : ∃ a p1, r = .ok a p1 ∧ k a p1 = .ok z p := by
  cases r with
  | ok a p1 => exact ⟨a, p1, rfl, e⟩
  | exc c fs p1 => cases e
  | bad => cases e
/-! ### names and constants -/
def eVar (i : Nat) : M Z := fun ρ p =>
  match ρ[i]? with
  | some (some c) => .ok ⟨c.d, if c.o = 0 then [] else [i], if c.o ≤ 1 then [] else [i], 0⟩ p
  | _ => .bad
section
variable {X : Cx} {T : Tx} {Wx : WX} {pos : Pos}
theorem OwnR.rp2 {F H Fb Fc : Hp} {n : Nat} {d : D} {v : V} {as : List Addr} (h : OwnR T F H (n + 1) d v as) (hb : Sub F Fb) (hc : Sub F Fc) (kb : ∀ a ∈ as, ∀ o, H a = some o → Fb a = some o) (kc : n = 0 ∨ ∀ a ∈ as, ∀ o, H a = some o → Fc a = some o) : Rp2 T Fb Fc d v := by
  have low : ∀ {ds : List D} {vs : List V} {bs : List Addr}, OwnRs (OwnR T F H n) ds vs bs → (∀ b ∈ bs, b ∈ as) → Rps T Fc ds vs := fun {ds vs bs} h5 hm => by
    rcases kc with z | z
    · subst z
      exact h5.rps fun d v cs _ q => Rp.sub hc _ q.2
    · exact h5.rps fun d v cs hcs q => OwnR.rp hc n q fun b hb => z b (hm b (hcs b hb))
  cases d with
  | lst ds =>
    obtain ⟨a, vs, bs, h1, h2, h3, h4⟩ := h
    exact ⟨a, vs, h1, kb a (by rw [h2]; exact List.mem_cons_self) _ h3, low h4 fun b hb => by rw [h2]; exact List.mem_cons_of_mem _ hb⟩
  | dic ks es =>
    obtain ⟨a, kvs, bs, h1, h2, h3, h4, h5⟩ := h
    exact ⟨a, kvs, h1, kb a (by rw [h2]; exact List.mem_cons_self) _ h3, Rps.sub hc _ h4, low h5 fun b hb => by rw [h2]; exact List.mem_cons_of_mem _ hb⟩
  | non => exact Rp.sub hb _ h.2
  | bl b => exact Rp.sub hb _ h.2
  | int i => exact Rp.sub hb _ h.2
  | str x => exact Rp.sub hb _ h.2
  | tup xs => exact (Rp2.of h.2).sub hb hc
  | obj c fs => exact (Rp2.of h.2).sub hb hc
  | fn n => exact Rp.sub hb _ h.2
  | ty n => exact Rp.sub hb _ h.2
  | clo n => exact Rp.sub hb _ h.2
  | pen => exact Rp.sub hb _ h.2
theorem SRep.var {H0 H : Hp} {Mo : Addr → Prop} {fp : Nat → List Addr} {ρ : Env} {p : Option Pen} {σ : L2.St} (s : SRep T H0 Mo fp ρ p σ H) {i : Nat} {c : Cell} (e : ρ[i]? = some (some c)) :
    ∃ v, σ[i]? = some (some v) ∧ ZRep T Mo fp H ⟨c.d, if c.o = 0 then [] else [i], if c.o ≤ 1 then [] else [i], 0⟩ v H := by
  obtain ⟨v, e1, r⟩ := s.cell i c e
  refine ⟨v, e1, ?_, fun n => absurd rfl n⟩
  have up : ∀ {b : List Nat}, Sub (hid (Hd Mo fp []) H) (hid (Hd Mo fp b) H) := fun {b} => hid_mono fun a z => .inl (z.mono fun i hi => absurd hi (by simp))
  have own : ∀ {b : List Nat}, i ∈ b → ∀ a ∈ fp i, ∀ o, H a = some o → hid (Hd Mo fp b) H a = some o := fun {b} hb a ha o ho => by
    rw [hid_out]
    · exact ho
    · intro z
      rcases z with z | ⟨j, h1, h2⟩
      · exact (s.fresh i a ha).2 z
      · exact h1 (by rw [s.dis j i a h2 ha]; exact hb)
  obtain ⟨d, o⟩ := c
  cases o with
  | zero => exact .of (Rp.sub (up (b := [])) _ r.2)
  | succ n =>
    cases n with
    | zero => exact r.rp2 up up (own (List.mem_singleton.mpr rfl)) (.inl rfl)
    | succ n =>
      have e2 : (if n + 1 + 1 ≤ 1 then ([] : List Nat) else [i]) = [i] := if_neg (by omega)
      show Rp2 T (hid (Hd Mo fp [i]) H) (hid (Hd Mo fp (if n + 1 + 1 ≤ 1 then [] else [i])) H) d v
      rw [e2]
      exact r.rp2 up up (own (List.mem_singleton.mpr rfl)) (.inr (own (List.mem_singleton.mpr rfl)))
theorem de_var {i : Nat} {x : Str} (hN : X.N[i]? = some x := by rfl) (hv : Vis X.env.scope x := by first | exact Or.inl rfl | exact Or.inr (Or.inl rfl) | exact Or.inr (Or.inr rfl)) (hd : (x == ("__debug__" : Str)) = false := by decide)
    (hcd : (x == ("__classdict__" : Str)) = false := by decide) : DE X T Wx (.Name x pos) (eVar i) := by
  refine (pe_var (i := i) hN hv hd hcd).mono fun σ H Q h => ?_
  obtain ⟨H0, Mo, fp, ρ, p, s, h⟩ := h
  unfold eVar at h
  cases e : ρ[i]? with
  | none =>
    rw [e] at h
    exact h.elim
  | some c =>
    cases c with
    | none =>
      rw [e] at h
      exact h.elim
    | some c =>
      rw [e] at h
      obtain ⟨v, e1, zr⟩ := s.var e
      exact ⟨v, e1, h v H (.refl H) s.pen zr⟩
def eC (d : D) : M Z := fun _ p => .ok (zS d) p
theorem de_val {e : Expr} {v : V} {d : D} (h : PE X e (tC v)) (r : ∀ F, Rp T F d v) : DE X T Wx e (eC d) := by
  refine h.mono fun σ H Q h => ?_
  obtain ⟨H0, Mo, fp, ρ, p, s, h⟩ := h
  exact h v H (.refl H) s.pen (.scalar r)
theorem de_int {i j} : DE X T Wx (.Constant (.int i) j pos) (eC (.int i)) := de_val pe_int fun _ => rfl
theorem de_bl {b j} : DE X T Wx (.Constant (.bool b) j pos) (eC (.bl b)) := de_val pe_bl fun _ => rfl
theorem de_non {j} : DE X T Wx (.Constant .none j pos) (eC .non) := de_val pe_non fun _ => rfl
theorem de_str {x j} : DE X T Wx (.Constant (.str x) j pos) (eC (.str x)) := de_val pe_str fun _ => rfl
end

/-! ### two-place operators by values -/
/-- what is asked of the rule for an operation f that gives op -/
def rZ (T : Tx) (op : Z → Z → Option Z) : R2 := fun vx vy H Q => ∃ Mo fp Hx Hy x y z, Ctx0 Mo fp H ∧ ZRep T Mo fp Hx x vx H ∧ ZRep T Mo fp Hy y vy H ∧ op x y = some z ∧
  ∀ v H', Sub H H' → ZRep T Mo fp H z v H' → Q v H'
def eOp (op : Z → Z → Option Z) (f g : M Z) : M Z := fun ρ p => (f ρ p).bind fun x p1 => (g ρ p1).bind fun y p2 => match op x y with | some z => .ok z p2 | none => .bad
section
variable {X : Cx} {T : Tx} {Wx : WX} {pos : Pos} {a b c : Expr} {f g k : M Z} {op : Z → Z → Option Z}
theorem up_two {r : R2} (hr : ∀ x y H Q, rZ T op x y H Q → r x y H Q) {σ : L2.St} {H : Hp} {Q : VK} (h : upE T Wx (eOp op f g) σ H Q) : upE T Wx f σ H fun x H1 => upE T Wx g σ H1 fun y H2 => r x y H2 Q := by
  obtain ⟨H0, Mo, fp, ρ, p, s, h⟩ := h
  refine ⟨H0, Mo, fp, ρ, p, s, h.bind.imp fun x p1 vx H1 _ g1 x1 zx h1 => ?_⟩
  have s1 := s.grows g1 x1
  refine ⟨H0, Mo, fp, ρ, p1, s1, (h1.bind.part g1 s1.nw).imp fun y p2 vy H2 _ g2 x2 zy h2 => hr _ _ _ _ ?_⟩
  have s2 := s1.grows g2 x2
  cases e : op x y with
  | none =>
    rw [e] at h2
    exact h2.elim
  | some z =>
    rw [e] at h2
    exact ⟨Mo, fp, H, H1, x, y, z, s2.ctx, zx.grows g2 x1 s.mo, zy, e, fun v H3 s3 zr => h2 v H3 (.of s3) (x2.sub s3) (zr.since (g1.trans g2) s2.nw)⟩
theorem de_op {o : Operator} {r : R2} (ho : OpR X (binaryOp o) r) (hr : ∀ x y H Q, rZ T op x y H Q → r x y H Q) (ha : DE X T Wx a f) (hb : DE X T Wx b g) : DE X T Wx (.BinOp a o b pos) (eOp op f g) :=
  (pe_op ho ha hb).mono fun _ _ _ h => up_two hr h
theorem de_cmp {o : CmpOp} {r : R2} (ho : OpR X (compareOp o) r) (hr : ∀ x y H Q, rZ T op x y H Q → r x y H Q) (ha : DE X T Wx a f) (hb : DE X T Wx b g) (hm : behindInMarks o b = false) : DE X T Wx (.Compare a [o] [b] pos) (eOp op f g) :=
  (pe_cmpR ho ha hb hm).mono fun _ _ _ h => up_two hr h
end

/-! ### truth, tests -/
def truth : D → Option Bool
  | .non => some false
  | .bl b => some b
  | .int i => some (i != 0)
  | .str x => if x.length ≤ LIM then some ((x.length : Int) != 0) else none
  | .tup xs => some !xs.isEmpty
  | .lst xs => some !xs.isEmpty
  | .dic ks _ => some !ks.isEmpty
  | _ => none
theorem Rps.isEmpty {T : Tx} {F : Hp} {ds : List D} {vs : List V} (h : Rps T F ds vs) : ds.isEmpty = vs.isEmpty := by
  cases ds with
  | nil =>
    have h : vs = [] := h
    rw [h] <;> rfl
  | cons d ds =>
    obtain ⟨v, r, rfl, _⟩ := h
    rfl
theorem truth_ok {T : Tx} {F H : Hp} (s : Sub F H) {d : D} {v : V} {k : Bool} (h : Rp T F d v) (e : truth d = some k) : TruV T.K v H k := by
  cases d with
  | non =>
    have h : v = .non := h
    subst h
    exact (Option.some.inj e).symm
  | bl b =>
    have h : v = .bl b := h
    subst h
    exact (Option.some.inj e).symm
  | int i =>
    have h : v = .int i := h
    subst h
    exact (Option.some.inj e).symm
  | str x =>
    have h : v = .str x := h
    subst h
    have e : (if x.length ≤ LIM then some ((x.length : Int) != 0) else none) = some k := e
    by_cases q : x.length ≤ LIM
    · rw [if_pos q] at e
      exact ⟨lim_le q, (Option.some.inj e).symm⟩
    · rw [if_neg q] at e
      cases e
  | tup xs =>
    obtain ⟨a, vs, rfl, h2, h3⟩ := h
    exact .inr (.inl ⟨vs, s.sqt h2, by rw [← h3.isEmpty]; exact (Option.some.inj e).symm⟩)
  | lst xs =>
    obtain ⟨a, vs, rfl, h2, h3⟩ := h
    exact .inl ⟨vs, .of (s _ _ h2), by rw [← h3.isEmpty]; exact (Option.some.inj e).symm⟩
  | dic ks es =>
    obtain ⟨a, kvs, rfl, h2, h3, h4⟩ := h
    refine .inr (.inr ⟨kvs, s _ _ h2, ?_⟩)
    have q := h3.isEmpty
    rw [List.isEmpty_map] at q
    rw [← q]
    exact (Option.some.inj e).symm
  | obj c fs => cases e
  | fn n => cases e
  | ty n => cases e
  | clo n => cases e
  | pen => cases e
/-- a test: the value's truth -/
def upT (T : Tx) (Wx : WX) (m : M Z) : TT := fun σ H Q => ∃ H0 Mo fp ρ p, SRep T H0 Mo fp ρ p σ H ∧ EPost T Wx H0 Mo fp H H (m ρ p) fun z _ _ H' => ∃ b, truth z.d = some b ∧ Q b H'
abbrev DT (X : Cx) (T : Tx) (Wx : WX) (e : Expr) (m : M Z) : Prop := PT X e (upT T Wx m)
abbrev DW (X : Cx) (T : Tx) (Wx : WX) (e : Expr) (m : M Z) : Prop := PW X e (upT T Wx m)
def eAnd (f g : M Z) : M Z := fun ρ p => (f ρ p).bind fun x p1 => match truth x.d with | some true => g ρ p1 | some false => .ok x p1 | none => .bad
def eOr (f g : M Z) : M Z := fun ρ p => (f ρ p).bind fun x p1 => match truth x.d with | some true => .ok x p1 | some false => g ρ p1 | none => .bad
def eNot (f : M Z) : M Z := fun ρ p => (f ρ p).bind fun x p1 => match truth x.d with | some b => .ok (zS (.bl !b)) p1 | none => .bad
def eIf (c f g : M Z) : M Z := fun ρ p => (c ρ p).bind fun x p1 => match truth x.d with | some true => f ρ p1 | some false => g ρ p1 | none => .bad
section
variable {X : Cx} {T : Tx} {Wx : WX} {pos : Pos} {a b c : Expr} {rest : List Expr} {f g k : M Z} {op : Z → Z → Option Z}
theorem dt_of (hK : T.K = X.K) (ha : DE X T Wx a f) (he : ∀ whole, isTrue a X.env whole = (do let v ← whole; standAt a.pos; holding [v] (truthy v)) := by intro _; rfl) : DT X T Wx a f := by
  refine (pt_truth ha he).mono fun σ H Q h => ?_
  obtain ⟨H0, Mo, fp, ρ, p, s, h⟩ := h
  refine ⟨H0, Mo, fp, ρ, p, s, h.imp fun z p1 v H1 _ g1 x1 zr q => ?_⟩
  obtain ⟨k, e, q⟩ := q
  exact ⟨k, hK ▸ truth_ok hid_sub zr.wide e, q⟩
theorem dt_cmp {o : CmpOp} {r : R2} (ho : OpR X (compareOp o) r) (hr : ∀ x y H Q, rZ T op x y H Q → r x y H Q) (hB : ∀ x y z, op x y = some z → ∃ k, z.d = .bl k) (ha : DE X T Wx a f) (hb : DE X T Wx b g) (hm : behindInMarks o b = false) : DT X T Wx (.Compare a [o] [b] pos) (eOp op f g) := by
  refine (pt_cmpR ho ha hb hm).mono fun σ H Q h => ?_
  have h2 : upE T Wx (eOp op f g) σ H fun x H' => ∃ k, x = .bl k ∧ Q k H' := by
    obtain ⟨H0, Mo, fp, ρ, p, s, h⟩ := h
    refine ⟨H0, Mo, fp, ρ, p, s, h.imp fun z p1 v H1 e _ _ zr q => ?_⟩
    obtain ⟨k, e1, q⟩ := q
    obtain ⟨k', e2⟩ : ∃ k, z.d = .bl k := by
      obtain ⟨x, p2, _, e⟩ := R.bind_ok e
      obtain ⟨y, p3, _, e⟩ := R.bind_ok e
      cases q3 : op x y with
      | none =>
        simp only [q3] at e
        cases e
      | some z' =>
        simp only [q3] at e
        cases e
        exact hB _ _ _ q3
    have w := zr.wide
    rw [e2] at w e1
    have w : v = .bl k' := w
    have e1 : k' = k := Option.some.inj e1
    subst e1
    exact ⟨k', w, q⟩
  exact up_two hr h2
theorem dw_and1 (ha : DT X T Wx a f) : DW X T Wx (.BoolOp .And [a] pos) f := pw_and1 ha
theorem dw_or1 (ha : DT X T Wx a f) : DW X T Wx (.BoolOp .Or [a] pos) f := pw_or1 ha
theorem up_and {σ : L2.St} {H : Hp} {Q : Bool → Hp → Prop} (h : upT T Wx (eAnd f g) σ H Q) : upT T Wx f σ H fun c H1 => if c = true then upT T Wx g σ H1 Q else Q false H1 := by
  obtain ⟨H0, Mo, fp, ρ, p, s, h⟩ := h
  refine ⟨H0, Mo, fp, ρ, p, s, h.bind.imp fun x p1 vx H1 _ g1 x1 zx h1 => ?_⟩
  cases e : truth x.d with
  | none =>
    rw [e] at h1
    exact h1.elim
  | some b =>
    rw [e] at h1
    refine ⟨b, rfl, ?_⟩
    cases b with
    | true =>
      rw [if_pos rfl]
      exact ⟨H0, Mo, fp, ρ, p1, s.grows g1 x1, h1.part g1 (s.grows g1 x1).nw⟩
    | false =>
      rw [if_neg Bool.false_ne_true]
      obtain ⟨b, e2, q⟩ := h1 vx H1 (.refl _) x1 zx
      rw [e] at e2
      cases e2
      exact q
theorem up_or {σ : L2.St} {H : Hp} {Q : Bool → Hp → Prop} (h : upT T Wx (eOr f g) σ H Q) : upT T Wx f σ H fun c H1 => if c = true then Q true H1 else upT T Wx g σ H1 Q := by
  obtain ⟨H0, Mo, fp, ρ, p, s, h⟩ := h
  refine ⟨H0, Mo, fp, ρ, p, s, h.bind.imp fun x p1 vx H1 _ g1 x1 zx h1 => ?_⟩
  cases e : truth x.d with
  | none =>
    rw [e] at h1
    exact h1.elim
  | some b =>
    rw [e] at h1
    refine ⟨b, rfl, ?_⟩
    cases b with
    | false =>
      rw [if_neg Bool.false_ne_true]
      exact ⟨H0, Mo, fp, ρ, p1, s.grows g1 x1, h1.part g1 (s.grows g1 x1).nw⟩
    | true =>
      rw [if_pos rfl]
      obtain ⟨b, e2, q⟩ := h1 vx H1 (.refl _) x1 zx
      rw [e] at e2
      cases e2
      exact q
theorem dw_and (ha : DT X T Wx a f) (hb : DW X T Wx (.BoolOp .And (b :: rest) pos) g) : DW X T Wx (.BoolOp .And (a :: b :: rest) pos) (eAnd f g) := (pw_and ha hb).mono fun _ _ _ h => up_and h
theorem dw_or (ha : DT X T Wx a f) (hb : DW X T Wx (.BoolOp .Or (b :: rest) pos) g) : DW X T Wx (.BoolOp .Or (a :: b :: rest) pos) (eOr f g) := (pw_or ha hb).mono fun _ _ _ h => up_or h
theorem dt_w {e : Expr} (h : DW X T Wx e f) : DT X T Wx e f := h.pt
theorem dt_not (ha : DT X T Wx a f) : DT X T Wx (.UnaryOp .Not a pos) (eNot f) := by
  refine (pt_not ha).mono fun σ H Q h => ?_
  obtain ⟨H0, Mo, fp, ρ, p, s, h⟩ := h
  refine ⟨H0, Mo, fp, ρ, p, s, h.bind.imp fun x p1 vx H1 _ g1 x1 zx h1 => ?_⟩
  cases e : truth x.d with
  | none =>
    rw [e] at h1
    exact h1.elim
  | some b =>
    rw [e] at h1
    obtain ⟨b', e2, q⟩ := h1 (.bl !b) H1 (.refl _) x1 (.scalar fun _ => rfl)
    have e2 : (!b) = b' := Option.some.inj e2
    subst e2
    exact ⟨b, rfl, q⟩
/-! .. as values -/
theorem de_one {op : BoolOp} (h : DE X T Wx a f) : DE X T Wx (.BoolOp op [a] pos) f := pe_one h
theorem de_and (hK : T.K = X.K) (ha : DE X T Wx a f) (hb : DE X T Wx (.BoolOp .And (b :: rest) pos) g) : DE X T Wx (.BoolOp .And (a :: b :: rest) pos) (eAnd f g) := by
  refine (pe_andT ha hb).mono fun σ H Q h => ?_
  obtain ⟨H0, Mo, fp, ρ, p, s, h⟩ := h
  refine ⟨H0, Mo, fp, ρ, p, s, h.bind.imp fun x p1 vx H1 _ g1 x1 zx h1 => ?_⟩
  cases e : truth x.d with
  | none =>
    rw [e] at h1
    exact h1.elim
  | some b =>
    rw [e] at h1
    refine ⟨b, hK ▸ truth_ok hid_sub zx.wide e, ?_⟩
    cases b with
    | true =>
      rw [if_pos rfl]
      exact ⟨H0, Mo, fp, ρ, p1, s.grows g1 x1, h1.part g1 (s.grows g1 x1).nw⟩
    | false =>
      rw [if_neg Bool.false_ne_true]
      exact h1 vx H1 (.refl _) x1 zx
theorem de_or (hK : T.K = X.K) (ha : DE X T Wx a f) (hb : DE X T Wx (.BoolOp .Or (b :: rest) pos) g) : DE X T Wx (.BoolOp .Or (a :: b :: rest) pos) (eOr f g) := by
  refine (pe_orT ha hb).mono fun σ H Q h => ?_
  obtain ⟨H0, Mo, fp, ρ, p, s, h⟩ := h
  refine ⟨H0, Mo, fp, ρ, p, s, h.bind.imp fun x p1 vx H1 _ g1 x1 zx h1 => ?_⟩
  cases e : truth x.d with
  | none =>
    rw [e] at h1
    exact h1.elim
  | some b =>
    rw [e] at h1
    refine ⟨b, hK ▸ truth_ok hid_sub zx.wide e, ?_⟩
    cases b with
    | false =>
      rw [if_neg Bool.false_ne_true]
      exact ⟨H0, Mo, fp, ρ, p1, s.grows g1 x1, h1.part g1 (s.grows g1 x1).nw⟩
    | true =>
      rw [if_pos rfl]
      exact h1 vx H1 (.refl _) x1 zx
theorem de_not (hK : T.K = X.K) (ha : DE X T Wx a f) : DE X T Wx (.UnaryOp .Not a pos) (eNot f) := by
  refine (pe_notT ha).mono fun σ H Q h => ?_
  obtain ⟨H0, Mo, fp, ρ, p, s, h⟩ := h
  refine ⟨H0, Mo, fp, ρ, p, s, h.bind.imp fun x p1 vx H1 _ g1 x1 zx h1 => ?_⟩
  cases e : truth x.d with
  | none =>
    rw [e] at h1
    exact h1.elim
  | some b =>
    rw [e] at h1
    exact ⟨b, hK ▸ truth_ok hid_sub zx.wide e, h1 (.bl !b) H1 (.refl _) x1 (.scalar fun _ => rfl)⟩
theorem de_if (hc : DT X T Wx c k) (ha : DE X T Wx a f) (hb : DE X T Wx b g) : DE X T Wx (.IfExp c a b pos) (eIf k f g) := by
  refine (pe_ifExp hc ha hb).mono fun σ H Q h => ?_
  obtain ⟨H0, Mo, fp, ρ, p, s, h⟩ := h
  refine ⟨H0, Mo, fp, ρ, p, s, h.bind.imp fun x p1 vx H1 _ g1 x1 zx h1 => ?_⟩
  cases e : truth x.d with
  | none =>
    rw [e] at h1
    exact h1.elim
  | some b =>
    rw [e] at h1
    refine ⟨b, rfl, ?_⟩
    cases b with
    | true =>
      rw [if_pos rfl]
      exact ⟨H0, Mo, fp, ρ, p1, s.grows g1 x1, h1.part g1 (s.grows g1 x1).nw⟩
    | false =>
      rw [if_neg Bool.false_ne_true]
      exact ⟨H0, Mo, fp, ρ, p1, s.grows g1 x1, h1.part g1 (s.grows g1 x1).nw⟩
end

/-! ### lists of arguments, displays -/
inductive ZReps (T : Tx) (Mo : Addr → Prop) (fp : Nat → List Addr) (H : Hp) : List Z → List V → Prop
  | nil : ZReps T Mo fp H [] []
  | cons {Hs : Hp} {z : Z} {v : V} {zs : List Z} {vs : List V} (h : ZRep T Mo fp Hs z v H) (ns : ∀ a, Mo a → Hs a ≠ none) (t : ZReps T Mo fp H zs vs) : ZReps T Mo fp H (z :: zs) (v :: vs)
theorem ZReps.grows {T : Tx} {Mo : Addr → Prop} {fp : Nat → List Addr} {H H' : Hp} {p : Option Pen} (g : Gr T H H') (xp : PenRep T Mo p H) : ∀ {zs : List Z} {vs : List V}, ZReps T Mo fp H zs vs → ZReps T Mo fp H' zs vs
  | _, _, .nil => .nil
  | _, _, .cons h ns t => .cons (h.grows g xp ns) ns (t.grows g xp)
def APost (T : Tx) (Wx : WX) (H0 : Hp) (Mo : Addr → Prop) (fp : Nat → List Addr) (H : Hp) (r : R (List Z)) (Q : List Z → Option Pen → List V → Hp → Prop) : Prop :=
  match r with
  | .ok zs p => ∀ vs H', Gr T H H' → PenRep T Mo p H' → ZReps T Mo fp H' zs vs → Q zs p vs H'
  | .exc c fs p => XPost T Wx H0 Mo c fs p
  | .bad => False
def upA (T : Tx) (Wx : WX) (m : M (List Z)) : TA := fun σ H Q => ∃ H0 Mo fp ρ p, SRep T H0 Mo fp ρ p σ H ∧ APost T Wx H0 Mo fp H (m ρ p) fun _ _ vs H' => Q vs H'
abbrev DA (X : Cx) (T : Tx) (Wx : WX) (es : List Expr) (m : M (List Z)) : Prop := PA X es (upA T Wx m)
theorem APost.imp {T : Tx} {Wx : WX} {H0 : Hp} {Mo : Addr → Prop} {fp : Nat → List Addr} {H : Hp} {r : R (List Z)} {Q Q' : List Z → Option Pen → List V → Hp → Prop} (h : APost T Wx H0 Mo fp H r Q)
    (k : ∀ zs p vs H', r = .ok zs p → Gr T H H' → PenRep T Mo p H' → ZReps T Mo fp H' zs vs → Q zs p vs H' → Q' zs p vs H') : APost T Wx H0 Mo fp H r Q' := by
  cases r with
  | ok z p => exact fun v H' g x zr => k z p v H' rfl g x zr (h v H' g x zr)
  | exc c fs p => exact h
  | bad => exact h
def aNil : M (List Z) := fun _ p => .ok [] p
def aCons (f : M Z) (g : M (List Z)) : M (List Z) := fun ρ p => (f ρ p).bind fun z p1 => (g ρ p1).bind fun zs p2 => .ok (z :: zs) p2
def eTup (g : M (List Z)) : M Z := fun ρ p => (g ρ p).bind fun zs p1 => if zs.length ≤ LIM then .ok ⟨.tup (zs.map (·.d)), [], zs.flatMap (·.lo), 0⟩ p1 else .bad
def eLst (g : M (List Z)) : M Z := fun ρ p => (g ρ p).bind fun zs p1 => if zs.length ≤ LIM then .ok ⟨.lst (zs.map (·.d)), [], zs.flatMap (·.lo), 1⟩ p1 else .bad
section
variable {X : Cx} {T : Tx} {Wx : WX} {pos : Pos} {e : Expr} {es : List Expr} {f : M Z} {g : M (List Z)}
theorem da_nil : DA X T Wx [] aNil := pa_nil.mono fun σ H Q h => by
  obtain ⟨H0, Mo, fp, ρ, p, s, h⟩ := h
  exact h [] H (.refl H) s.pen .nil
theorem da_cons (ha : DE X T Wx e f) (hr : DA X T Wx es g) (hs : starEach (e :: es) X.env = (false, eval e X.env) :: starEach es X.env := by rfl) : DA X T Wx (e :: es) (aCons f g) := by
  refine (pa_cons ha hr hs).mono fun σ H Q h => ?_
  obtain ⟨H0, Mo, fp, ρ, p, s, h⟩ := h
  refine ⟨H0, Mo, fp, ρ, p, s, ?_⟩
  unfold aCons at h
  cases e1 : f ρ p with
  | bad =>
    rw [e1] at h
    exact h.elim
  | exc c fs p1 =>
    rw [e1] at h
    exact h
  | ok z p1 =>
    rw [e1] at h
    intro v H1 g1 x1 zr
    have s1 := s.grows g1 x1
    refine ⟨H0, Mo, fp, ρ, p1, s1, ?_⟩
    have h : APost T Wx H0 Mo fp H ((g ρ p1).bind fun zs p2 => .ok (z :: zs) p2) fun _ _ vs H' => Q vs H' := h
    cases e2 : g ρ p1 with
    | bad =>
      rw [e2] at h
      exact h.elim
    | exc c fs p2 =>
      rw [e2] at h
      exact h
    | ok zs p2 =>
      rw [e2] at h
      exact fun vs H2 g2 x2 zrs => h (v :: vs) H2 (g1.trans g2) x2 (.cons (zr.grows g2 x1 s.mo) s.mo zrs)
theorem ZReps.rps {T : Tx} {Mo : Addr → Prop} {fp : Nat → List Addr} {H : Hp} {b : List Nat} : ∀ {zs : List Z} {vs : List V}, ZReps T Mo fp H zs vs → (∀ z ∈ zs, ∀ i ∈ z.lo, i ∈ b) → Rps T (hid (Hd Mo fp b) H) (zs.map (·.d)) vs
  | _, _, .nil, _ => rfl
  | _, _, .cons h _ t, k => ⟨_, _, rfl, h.all (k _ List.mem_cons_self), t.rps fun z hz => k z (List.mem_cons_of_mem _ hz)⟩
theorem ZReps.len {T : Tx} {Mo : Addr → Prop} {fp : Nat → List Addr} {H : Hp} : ∀ {zs : List Z} {vs : List V}, ZReps T Mo fp H zs vs → zs.length = vs.length
  | _, _, .nil => rfl
  | _, _, .cons _ _ t => by rw [List.length_cons, List.length_cons, t.len]
theorem de_tup {x1} (h : DA X T Wx es g) : DE X T Wx (.Tuple es x1 pos) (eTup g) := by
  refine (pe_tup h).mono fun σ H Q h => ?_
  obtain ⟨H0, Mo, fp, ρ, p, s, h⟩ := h
  refine ⟨H0, Mo, fp, ρ, p, s, ?_⟩
  unfold eTup at h
  cases e1 : g ρ p with
  | bad =>
    rw [e1] at h
    exact h.elim
  | exc c fs p1 =>
    rw [e1] at h
    exact h
  | ok zs p1 =>
    rw [e1] at h
    intro vs H1 g1 x1 zrs
    have h : EPost T Wx H0 Mo fp H H (if zs.length ≤ LIM then .ok ⟨.tup (zs.map (·.d)), [], zs.flatMap (·.lo), 0⟩ p1 else .bad) fun _ _ v H' => Q v H' := h
    by_cases q : zs.length ≤ LIM
    · rw [if_pos q] at h
      have s1 := s.grows g1 x1
      refine ⟨by rw [← zrs.len]; exact lim_le q, fun a na => h _ _ (g1.trans (.of (.new na))) (x1.sub (.new na)) ((s1.ctx.newTup na (zrs.rps fun z hz i hi => List.mem_flatMap.mpr ⟨z, hz, hi⟩)).since g1 s1.nw)⟩
    · rw [if_neg q] at h
      exact h.elim
theorem de_lst (h : DA X T Wx es g) : DE X T Wx (.List es pos) (eLst g) := by
  refine (pe_lst h).mono fun σ H Q h => ?_
  obtain ⟨H0, Mo, fp, ρ, p, s, h⟩ := h
  refine ⟨H0, Mo, fp, ρ, p, s, ?_⟩
  unfold eLst at h
  cases e1 : g ρ p with
  | bad =>
    rw [e1] at h
    exact h.elim
  | exc c fs p1 =>
    rw [e1] at h
    exact h
  | ok zs p1 =>
    rw [e1] at h
    intro vs H1 g1 x1 zrs
    have h : EPost T Wx H0 Mo fp H H (if zs.length ≤ LIM then .ok ⟨.lst (zs.map (·.d)), [], zs.flatMap (·.lo), 1⟩ p1 else .bad) fun _ _ v H' => Q v H' := h
    by_cases q : zs.length ≤ LIM
    · rw [if_pos q] at h
      have s1 := s.grows g1 x1
      refine ⟨by rw [← zrs.len]; exact lim_le q, fun a na => h _ _ (g1.trans (.of (.new na))) (x1.sub (.new na)) ((s1.ctx.newLst na (zrs.rps fun z hz i hi => List.mem_flatMap.mpr ⟨z, hz, hi⟩)).since g1 s1.nw)⟩
    · rw [if_neg q] at h
      exact h.elim
end
end DL
set_option Elab.async false
set_option linter.all false
set_option maxRecDepth 100000
set_option maxHeartbeats 2000000
/-! # The data layer, part 3: operators and comparisons -/
namespace DL
open PySem PySem.Spec PyProof.Rows L2

section
variable {T : Tx} {H H' Hs : Hp} {Mo : Addr → Prop} {fp : Nat → List Addr} {z : Z} {v : V}
theorem ZRep.int {i : Int} (x : ZRep T Mo fp Hs z v H) (e : z.d = .int i) : v = .int i := by
  have w := x.wide
  rw [e] at w
  exact w
theorem ZRep.bl {i : Bool} (x : ZRep T Mo fp Hs z v H) (e : z.d = .bl i) : v = .bl i := by
  have w := x.wide
  rw [e] at w
  exact w
theorem ZRep.str {i : Str} (x : ZRep T Mo fp Hs z v H) (e : z.d = .str i) : v = .str i := by
  have w := x.wide
  rw [e] at w
  exact w
theorem ZRep.non (x : ZRep T Mo fp Hs z v H) (e : z.d = .non) : v = .non := by
  have w := x.wide
  rw [e] at w
  exact w
theorem ZRep.lst {ds : List D} (x : ZRep T Mo fp Hs z v H) (e : z.d = .lst ds) : ∃ a vs, v = .ref a ∧ H a = some (.lst vs) ∧ Rps T (hid (Hd Mo fp z.c) H) ds vs := by
  have w := x.val
  rw [e] at w
  obtain ⟨a, vs, h1, h2, h3⟩ := w
  exact ⟨a, vs, h1, hid_sub _ _ h2, h3⟩
theorem ZRep.tup {ds : List D} (x : ZRep T Mo fp Hs z v H) (e : z.d = .tup ds) : ∃ a vs, v = .ref a ∧ SqT T.K (hid (Hd Mo fp z.b) H) a vs ∧ Rps T (hid (Hd Mo fp z.c) H) ds vs := by
  have w := x.val
  rw [e] at w
  exact w
theorem ZRep.dic {ks es : List D} (x : ZRep T Mo fp Hs z v H) (e : z.d = .dic ks es) : ∃ a kvs, v = .ref a ∧ H a = some (.dK kvs) ∧ Rps T (hid (Hd Mo fp z.c) H) ks (kvs.map fun kv => kV kv.1) ∧ Rps T (hid (Hd Mo fp z.c) H) es (kvs.map fun kv => kv.2) := by
  have w := x.val
  rw [e] at w
  obtain ⟨a, vs, h1, h2, h3⟩ := w
  exact ⟨a, vs, h1, hid_sub _ _ h2, h3⟩
theorem hd_sub {b b' : List Nat} (h : ∀ i ∈ b, i ∈ b') : Sub (hid (Hd Mo fp b) H) (hid (Hd Mo fp b') H) := hid_mono fun a q => .inl (q.mono h)
end

/-! ### + - * // % ** << >> -/
def opAdd (x y : Z) : Option Z :=
  match x.d, y.d with
  | .int i, .int j => some (zS (.int (i + j)))
  | .str i, .str j => if i.length + j.length ≤ LIM then some (zS (.str (i ++ j))) else none
  | .lst i, .lst j => if i.length + j.length ≤ LIM then some ⟨.lst (i ++ j), [], x.c ++ y.c, 1⟩ else none
  | .tup i, .tup j => if i.length + j.length ≤ LIM then some ⟨.tup (i ++ j), x.b ++ y.b, x.c ++ y.c, 0⟩ else none
  | _, _ => none
def opSub (x y : Z) : Option Z :=
  match x.d, y.d with
  | .int i, .int j => some (zS (.int (i - j)))
  | _, _ => none
abbrev lowI (i : Int) : Bool := decide (-(2 ^ 64) < i) && decide (i < 2 ^ 64)
def repD (k : Int) (l : List D) : List D := (List.replicate k.toNat l).flatten
abbrev mulOk (i j : Int) : Bool := lowI i || lowI j || decide (i.natAbs.log2 + j.natAbs.log2 < 1000000)
abbrev divOk (j : Int) : Bool := decide (j ≠ 0) && (decide (j.natAbs < 1073741824) || decide (j.natAbs.log2 < 9000))
def opMul (x y : Z) : Option Z :=
  match x.d, y.d with
  | .int i, .int j => if mulOk i j = true then some (zS (.int (i * j))) else none
  | .lst l, .int k => if (lowI k && decide (l.length * k.toNat ≤ LIM) && decide (k < 2 ^ 62) && decide (-(2 ^ 62) < k)) = true then some ⟨.lst (repD k l), [], x.c, 1⟩ else none
  | .tup l, .int k => if (!l.isEmpty && decide (2 ≤ k) && decide (k ≤ 1000) && decide (l.length ≤ 1000)) = true then some ⟨.tup (repD k l), x.b, x.c, 0⟩ else none
  | _, _ => none
def opFdiv (x y : Z) : Option Z :=
  match x.d, y.d with
  | .int i, .int j => if divOk j = true then some (zS (.int (i.fdiv j))) else none
  | _, _ => none
def opMod (x y : Z) : Option Z :=
  match x.d, y.d with
  | .int i, .int j => if decide (j ≠ 0) = true then some (zS (.int (i.fmod j))) else none
  | _, _ => none
def powOk (i j : Int) : Bool := decide (0 ≤ j) && decide (j ≤ 1000000) && decide (i.natAbs < 2 ^ 64)
def opPow (x y : Z) : Option Z :=
  match x.d, y.d with
  | .int i, .int j => if powOk i j = true then some (zS (.int (i ^ j.toNat))) else none
  | _, _ => none
def opShl (x y : Z) : Option Z :=
  match x.d, y.d with
  | .int i, .int j => if powOk i j = true then some (zS (.int (i * 2 ^ j.toNat))) else none
  | _, _ => none
def opShr (x y : Z) : Option Z :=
  match x.d, y.d with
  | .int i, .int j => if decide (0 ≤ j) = true then some (zS (.int (i / 2 ^ j.toNat))) else none
  | _, _ => none

theorem some_if {α : Type} {c : Prop} [Decidable c] {a b : α} (h : (if c then some a else none) = some b) : c ∧ a = b := by
  by_cases q : c
  · rw [if_pos q] at h
    exact ⟨q, Option.some.inj h⟩
  · rw [if_neg q] at h
    cases h
theorem repV_len (k : Nat) (l : List V) : ((List.replicate k l).flatten).length = k * l.length := by simp
theorem Rps.rep {T : Tx} {F : Hp} {ds : List D} {vs : List V} (h : Rps T F ds vs) : ∀ k : Nat, Rps T F (List.replicate k ds).flatten (List.replicate k vs).flatten
  | 0 => rfl
  | k + 1 => by
    rw [List.replicate_succ, List.replicate_succ, List.flatten_cons, List.flatten_cons]
    exact h.app (h.rep k)

section
variable {X : Cx} {T : Tx} {Wx : WX} {pos : Pos} {a b : Expr} {f g : M Z}
theorem de_add (hK : T.K = X.K) (ha : DE X T Wx a f) (hb : DE X T Wx b g) : DE X T Wx (.BinOp a .Add b pos) (eOp opAdd f g) := by
  refine de_op (((op_add.or op_add_str).or op_cat).or op_catA) (fun vx vy H Q h => ?_) ha hb
  obtain ⟨Mo, fp, Hx, Hy, x, y, z, c, zx, zy, e, k⟩ := h
  unfold opAdd at e
  split at e
  · rename_i i j e1 e2
    cases e
    exact .inl (.inl (.inl ⟨i, j, zx.int e1, zy.int e2, k _ _ (.refl H) (.scalar fun _ => rfl)⟩))
  · rename_i i j e1 e2
    obtain ⟨q, rfl⟩ := some_if e
    exact .inl (.inl (.inr ⟨i, j, zx.str e1, zy.str e2, lim_le q, k _ _ (.refl H) (.scalar fun _ => rfl)⟩))
  · rename_i i j e1 e2
    obtain ⟨q, rfl⟩ := some_if e
    obtain ⟨a, vs, rfl, h1, h2⟩ := zx.lst e1
    obtain ⟨b, ws, rfl, h3, h4⟩ := zy.lst e2
    refine .inl (.inr ⟨a, b, vs, ws, rfl, rfl, h1, h3, by rw [← h2.len, ← h4.len]; exact lim_le q, fun p np => k _ _ (.new np) (c.newLst np ((h2.sub (hd_sub fun i hi => List.mem_append_left _ hi)).app (h4.sub (hd_sub fun i hi => List.mem_append_right _ hi))))⟩)
  · rename_i i j e1 e2
    obtain ⟨q, rfl⟩ := some_if e
    obtain ⟨a, vs, rfl, h1, h2⟩ := zx.tup e1
    obtain ⟨b, ws, rfl, h3, h4⟩ := zy.tup e2
    have h2' := h2.sub (hd_sub (b' := x.c ++ y.c) fun i hi => List.mem_append_left _ hi)
    have h4' := h4.sub (hd_sub (b' := x.c ++ y.c) fun i hi => List.mem_append_right _ hi)
    have hh := h2'.app h4'
    rw [hK] at h1 h3
    refine .inr ⟨a, b, vs, ws, rfl, rfl, hid_sub.sqt h1, hid_sub.sqt h3, by rw [← h2.len, ← h4.len]; exact lim_le q, fun e => ?_, fun _ e => ?_, fun _ _ p np => ?_⟩
    · subst e
      exact k _ _ (.refl H) ⟨⟨b, ws, rfl, hK ▸ (hd_sub fun i hi => List.mem_append_right _ hi).sqt h3, hh⟩, fun n => absurd rfl n⟩
    · subst e
      rw [List.append_nil] at hh
      exact k _ _ (.refl H) ⟨⟨a, vs, rfl, hK ▸ (hd_sub fun i hi => List.mem_append_left _ hi).sqt h1, hh⟩, fun n => absurd rfl n⟩
    · have nt := c.newTup np hh
      exact k _ _ (.new np) ⟨nt.val.sub (hd_sub fun i hi => absurd hi (by simp)) fun _ _ z => z, fun n => absurd rfl n⟩
  · cases e
theorem de_sub (ha : DE X T Wx a f) (hb : DE X T Wx b g) : DE X T Wx (.BinOp a .Sub b pos) (eOp opSub f g) := by
  refine de_op op_sub (fun vx vy H Q h => ?_) ha hb
  obtain ⟨Mo, fp, Hx, Hy, x, y, z, c, zx, zy, e, k⟩ := h
  unfold opSub at e
  split at e
  · rename_i i j e1 e2
    cases e
    exact ⟨i, j, zx.int e1, zy.int e2, k _ _ (.refl H) (.scalar fun _ => rfl)⟩
  · cases e
theorem low_of {i : Int} (h : lowI i = true) : -(2 ^ 64) < i ∧ i < 2 ^ 64 := by
  simpa [lowI] using h
theorem de_mul (hK : T.K = X.K) (ha : DE X T Wx a f) (hb : DE X T Wx b g) : DE X T Wx (.BinOp a .Mult b pos) (eOp opMul f g) := by
  refine de_op (((op_mul.or op_mulW).or op_rep).or op_repT) (fun vx vy H Q h => ?_) ha hb
  obtain ⟨Mo, fp, Hx, Hy, x, y, z, c, zx, zy, e, k⟩ := h
  unfold opMul at e
  split at e
  · rename_i i j e1 e2
    obtain ⟨q, rfl⟩ := some_if e
    have w : ∀ {C : Int → Int → Prop}, C i j → rI C (fun i j => .int (i * j)) vx vy H Q := fun hc => ⟨i, j, zx.int e1, zy.int e2, hc, k _ _ (.refl H) (.scalar fun _ => rfl)⟩
    rw [Bool.or_eq_true, Bool.or_eq_true] at q
    rcases q with (q | q) | q
    · exact .inl (.inl (.inl (w (.inl (low_of q)))))
    · exact .inl (.inl (.inl (w (.inr (low_of q)))))
    · exact .inl (.inl (.inr (w (C := CMulW) (show i.natAbs.log2 + j.natAbs.log2 < 1000000 from of_decide_eq_true q))))
  · rename_i l m e1 e2
    obtain ⟨q, rfl⟩ := some_if e
    simp only [Bool.and_eq_true, decide_eq_true_eq] at q
    obtain ⟨⟨⟨q1, q2⟩, q3⟩, q4⟩ := q
    obtain ⟨a, vs, rfl, h1, h2⟩ := zx.lst e1
    refine .inl (.inr ⟨a, m, vs, rfl, zy.int e2, h1, by omega, by omega, by rw [← h2.len]; exact lim_le q2, fun p np => k _ _ (.new np) (c.newLst np (h2.rep _))⟩)
  · rename_i l m e1 e2
    obtain ⟨q, rfl⟩ := some_if e
    simp only [Bool.and_eq_true, decide_eq_true_eq] at q
    obtain ⟨⟨⟨q1, q2⟩, q3⟩, q4⟩ := q
    obtain ⟨a, vs, rfl, h1, h2⟩ := zx.tup e1
    rw [hK] at h1
    have hh := h2.rep m.toNat
    refine .inr ⟨a, m, vs, rfl, zy.int e2, hid_sub.sqt h1, fun e => ?_, q2, q3, by rw [← h2.len]; exact q4, fun p np => ?_⟩
    · have := h2.len
      rw [e] at this
      cases l with
      | nil => cases q1
      | cons => cases this
    · have nt := c.newTup np hh
      exact k _ _ (.new np) ⟨nt.val.sub (hd_sub fun i hi => absurd hi (by simp)) fun _ _ z => z, fun n => absurd rfl n⟩
  · cases e
theorem op_fdivX : OpR X (binaryOp .FloorDiv) (rI (fun _ j => j ≠ 0 ∧ j.natAbs.log2 < 9000) fun i j => .int (i.fdiv j)) := opI fun _ _ _ _ _ _ _ hc q => floordiv_int hc.1 q (.inl (PyProof.noPylong_of_log2 hc.2))
theorem de_fdiv (ha : DE X T Wx a f) (hb : DE X T Wx b g) : DE X T Wx (.BinOp a .FloorDiv b pos) (eOp opFdiv f g) := by
  refine de_op (op_fdivN.or op_fdivX) (fun vx vy H Q h => ?_) ha hb
  obtain ⟨Mo, fp, Hx, Hy, x, y, z, c, zx, zy, e, k⟩ := h
  unfold opFdiv at e
  split at e
  · rename_i i j e1 e2
    obtain ⟨q, rfl⟩ := some_if e
    simp only [Bool.and_eq_true, Bool.or_eq_true, decide_eq_true_eq] at q
    rcases q.2 with q2 | q2
    · exact .inl ⟨i, j, zx.int e1, zy.int e2, ⟨q.1, q2⟩, k _ _ (.refl H) (.scalar fun _ => rfl)⟩
    · exact .inr ⟨i, j, zx.int e1, zy.int e2, ⟨q.1, q2⟩, k _ _ (.refl H) (.scalar fun _ => rfl)⟩
  · cases e
theorem de_mod (ha : DE X T Wx a f) (hb : DE X T Wx b g) : DE X T Wx (.BinOp a .Mod b pos) (eOp opMod f g) := by
  refine de_op op_modN (fun vx vy H Q h => ?_) ha hb
  obtain ⟨Mo, fp, Hx, Hy, x, y, z, c, zx, zy, e, k⟩ := h
  unfold opMod at e
  split at e
  · rename_i i j e1 e2
    obtain ⟨q, rfl⟩ := some_if e
    simp only [decide_eq_true_eq] at q
    exact ⟨i, j, zx.int e1, zy.int e2, q, k _ _ (.refl H) (.scalar fun _ => rfl)⟩
  · cases e
theorem pow_ok {i j : Int} (h : powOk i j = true) : CPow i j := by
  unfold powOk at h
  simp only [Bool.and_eq_true, decide_eq_true_eq] at h
  exact ⟨h.1.1, h.1.2, h.2⟩
theorem de_pow (ha : DE X T Wx a f) (hb : DE X T Wx b g) : DE X T Wx (.BinOp a .Pow b pos) (eOp opPow f g) := by
  refine de_op op_pow (fun vx vy H Q h => ?_) ha hb
  obtain ⟨Mo, fp, Hx, Hy, x, y, z, c, zx, zy, e, k⟩ := h
  unfold opPow at e
  split at e
  · rename_i i j e1 e2
    obtain ⟨q, rfl⟩ := some_if e
    exact ⟨i, j, zx.int e1, zy.int e2, pow_ok q, k _ _ (.refl H) (.scalar fun _ => rfl)⟩
  · cases e
theorem de_shl (ha : DE X T Wx a f) (hb : DE X T Wx b g) : DE X T Wx (.BinOp a .LShift b pos) (eOp opShl f g) := by
  refine de_op op_shl (fun vx vy H Q h => ?_) ha hb
  obtain ⟨Mo, fp, Hx, Hy, x, y, z, c, zx, zy, e, k⟩ := h
  unfold opShl at e
  split at e
  · rename_i i j e1 e2
    obtain ⟨q, rfl⟩ := some_if e
    exact ⟨i, j, zx.int e1, zy.int e2, pow_ok q, k _ _ (.refl H) (.scalar fun _ => rfl)⟩
  · cases e
theorem de_shr (ha : DE X T Wx a f) (hb : DE X T Wx b g) : DE X T Wx (.BinOp a .RShift b pos) (eOp opShr f g) := by
  refine de_op op_shr (fun vx vy H Q h => ?_) ha hb
  obtain ⟨Mo, fp, Hx, Hy, x, y, z, c, zx, zy, e, k⟩ := h
  unfold opShr at e
  split at e
  · rename_i i j e1 e2
    obtain ⟨q, rfl⟩ := some_if e
    simp only [decide_eq_true_eq] at q
    exact ⟨i, j, zx.int e1, zy.int e2, q, k _ _ (.refl H) (.scalar fun _ => rfl)⟩
  · cases e
end

/-! ### -a -/
def eUn (op : Z → Option Z) (f : M Z) : M Z := fun ρ p => (f ρ p).bind fun x p1 => match op x with | some z => .ok z p1 | none => .bad
def opNeg (x : Z) : Option Z :=
  match x.d with
  | .int i => some (zS (.int (-i)))
  | _ => none
def rZ1 (T : Tx) (op : Z → Option Z) : V → Hp → VK → Prop := fun vx H Q => ∃ Mo fp Hx x z, Ctx0 Mo fp H ∧ ZRep T Mo fp Hx x vx H ∧ op x = some z ∧ ∀ v H', Sub H H' → ZRep T Mo fp H z v H' → Q v H'
section
variable {X : Cx} {T : Tx} {Wx : WX} {pos : Pos} {a b c : Expr} {f g k : M Z}
theorem up_one {op : Z → Option Z} {r : V → Hp → VK → Prop} (hr : ∀ x H Q, rZ1 T op x H Q → r x H Q) {σ : L2.St} {H : Hp} {Q : VK} (h : upE T Wx (eUn op f) σ H Q) : upE T Wx f σ H fun x H1 => r x H1 Q := by
  obtain ⟨H0, Mo, fp, ρ, p, s, h⟩ := h
  refine ⟨H0, Mo, fp, ρ, p, s, h.bind.imp fun x p1 vx H1 _ g1 x1 zx h1 => hr _ _ _ ?_⟩
  have s1 := s.grows g1 x1
  cases e : op x with
  | none =>
    rw [e] at h1
    exact h1.elim
  | some z =>
    rw [e] at h1
    exact ⟨Mo, fp, H, x, z, s1.ctx, zx, e, fun v H3 s3 zr => h1 v H3 (.of s3) (x1.sub s3) (zr.since g1 s1.nw)⟩
theorem de_neg (ha : DE X T Wx a f) : DE X T Wx (.UnaryOp .USub a pos) (eUn opNeg f) := by
  refine (pe_un un_neg ha).mono fun σ H Q h => up_one (fun vx H Q h => ?_) h
  obtain ⟨Mo, fp, Hx, x, z, c, zx, e, k⟩ := h
  unfold opNeg at e
  split at e
  · rename_i i e1
    cases e
    exact ⟨i, zx.int e1, k _ _ (.refl H) (.scalar fun _ => rfl)⟩
  · cases e

end

/-! ### comparisons -/
mutual
def toPy : D → PyData
  | .non => .none
  | .bl b => .bool b
  | .int i => .int i
  | .str x => .str x
  | .tup xs => .tuple (toPys xs)
  | .lst xs => .list (toPys xs)
  | _ => .none
def toPys : List D → List PyData
  | [] => []
  | d :: ds => toPy d :: toPys ds
end
mutual
/-- data alone, nested at most n deep -/
def dOk : D → Nat → Bool
  | .non, _ => true
  | .bl _, _ => true
  | .int _, _ => true
  | .str x, _ => PyData.strOk x
  | .tup xs, n => match n with | 0 => false | n + 1 => dOks xs n
  | .lst xs, n => match n with | 0 => false | n + 1 => dOks xs n
  | _, _ => false
def dOks : List D → Nat → Bool
  | [], _ => true
  | d :: ds, n => dOk d n && dOks ds n
end
mutual
theorem dOk_lay : ∀ (d : D) (n : Nat), dOk d n = true → (toPy d).canLay0 = true ∧ (toPy d).depth ≤ n
  | .non, n, h => ⟨rfl, Nat.zero_le _⟩
  | .bl _, n, h => ⟨rfl, Nat.zero_le _⟩
  | .int _, n, h => ⟨rfl, Nat.zero_le _⟩
  | .str x, n, h => ⟨by simpa [toPy, PyData.canLay0, dOk] using h, Nat.zero_le _⟩
  | .tup xs, 0, h => by simp [dOk] at h
  | .tup xs, n + 1, h => by
    have h : dOks xs n = true := by simpa [dOk] using h
    obtain ⟨h1, h2⟩ := dOks_lay xs n h
    refine ⟨by simpa [toPy, PyData.canLay0] using h1, ?_⟩
    simp only [toPy, PyData.depth]
    omega
  | .lst xs, 0, h => by simp [dOk] at h
  | .lst xs, n + 1, h => by
    have h : dOks xs n = true := by simpa [dOk] using h
    obtain ⟨h1, h2⟩ := dOks_lay xs n h
    refine ⟨by simpa [toPy, PyData.canLay0] using h1, ?_⟩
    simp only [toPy, PyData.depth]
    omega
  | .dic _ _, n, h => by simp [dOk] at h
  | .obj _ _, n, h => by simp [dOk] at h
  | .fn _, n, h => by simp [dOk] at h
  | .ty _, n, h => by simp [dOk] at h
  | .clo _, n, h => by simp [dOk] at h
  | .pen, n, h => by simp [dOk] at h
theorem dOks_lay : ∀ (ds : List D) (n : Nat), dOks ds n = true → PyData.canLayAll0 (toPys ds) = true ∧ PyData.depthAll (toPys ds) ≤ n
  | [], n, h => ⟨rfl, Nat.zero_le _⟩
  | d :: ds, n, h => by
    have h : dOk d n = true ∧ dOks ds n = true := by simpa [dOks] using h
    obtain ⟨h1, h2⟩ := dOk_lay d n h.1
    obtain ⟨h3, h4⟩ := dOks_lay ds n h.2
    refine ⟨by simp [toPys, PyData.canLayAll0, h1, h3], ?_⟩
    simp only [toPys, PyData.depthAll]
    omega
end
theorem dOk_shaped {d : D} {n : Nat} (h : dOk d n = true) (hn : n ≤ 64) : SeqAt.shaped (toPy d) = true := by
  obtain ⟨h1, h2⟩ := dOk_lay d n h
  unfold SeqAt.shaped
  rw [h1, decide_eq_true (by omega)] <;> rfl
mutual
theorem dp_of {T : Tx} {F H : Hp} (s : Sub F H) : ∀ (d : D) (n : Nat) {v : V}, dOk d n = true → Rp T F d v → Dp T.K H v (toPy d)
  | .non, n, v, h, r => by
    have r : v = .non := r
    subst r
    exact .non
  | .bl b, n, v, h, r => by
    have r : v = .bl b := r
    subst r
    exact .bl b
  | .int b, n, v, h, r => by
    have r : v = .int b := r
    subst r
    exact .int b
  | .str b, n, v, h, r => by
    have r : v = .str b := r
    subst r
    exact .str b
  | .tup xs, 0, v, h, r => by simp [dOk] at h
  | .tup xs, n + 1, v, h, r => by
    obtain ⟨a, vs, rfl, h1, h2⟩ := r
    exact .tup (s.sqt h1) (dps_of s xs n (by simpa [dOk] using h) h2)
  | .lst xs, 0, v, h, r => by simp [dOk] at h
  | .lst xs, n + 1, v, h, r => by
    obtain ⟨a, vs, rfl, h1, h2⟩ := r
    exact .lst (.of (s _ _ h1)) (dps_of s xs n (by simpa [dOk] using h) h2)
  | .dic _ _, n, v, h, r => by simp [dOk] at h
  | .obj _ _, n, v, h, r => by simp [dOk] at h
  | .fn _, n, v, h, r => by simp [dOk] at h
  | .ty _, n, v, h, r => by simp [dOk] at h
  | .clo _, n, v, h, r => by simp [dOk] at h
  | .pen, n, v, h, r => by simp [dOk] at h
theorem dps_of {T : Tx} {F H : Hp} (s : Sub F H) : ∀ (ds : List D) (n : Nat) {vs : List V}, dOks ds n = true → Rps T F ds vs → DpAll T.K H vs (toPys ds)
  | [], n, vs, h, r => by
    have r : vs = [] := r
    subst r
    exact .nil
  | d :: ds, n, vs, h, r => by
    obtain ⟨v, ws, rfl, h1, h2⟩ := r
    have h : dOk d n = true ∧ dOks ds n = true := by simpa [dOks] using h
    exact .cons (dp_of s d n h.1 h1) (dps_of s ds n h.2 h2)
end
def opEq (x y : Z) : Option Z := if (dOk x.d 60 && dOk y.d 60) = true then some (zS (.bl (PyData.eqv (toPy x.d) (toPy y.d)))) else none
def opNe (x y : Z) : Option Z := if (dOk x.d 60 && dOk y.d 60) = true then some (zS (.bl (!PyData.eqv (toPy x.d) (toPy y.d)))) else none
def intsOf : List D → Option (List Int)
  | [] => some []
  | .int i :: r => (intsOf r).map (i :: ·)
  | _ :: _ => none
theorem intsOf_map : ∀ (ns : List Int), intsOf (ns.map D.int) = some ns
  | [] => rfl
  | n :: ns => by
    show (intsOf (ns.map D.int)).map (n :: ·) = _
    rw [intsOf_map ns] <;> rfl
theorem intsOf_eq : ∀ {ds : List D} {ns : List Int}, intsOf ds = some ns → ds = ns.map D.int
  | [], ns, h => by
    cases h
    rfl
  | d :: ds, ns, h => by
    cases d with
    | int i =>
      have h : (intsOf ds).map (i :: ·) = some ns := h
      cases e : intsOf ds with
      | none =>
        rw [e] at h
        cases h
      | some ms =>
        rw [e] at h
        cases h
        rw [intsOf_eq e] <;> rfl
    | non => cases h
    | bl _ => cases h
    | str _ => cases h
    | tup _ => cases h
    | lst _ => cases h
    | dic _ _ => cases h
    | obj _ _ => cases h
    | fn _ => cases h
    | ty _ => cases h
    | clo _ => cases h
    | pen => cases h
def opLt (x y : Z) : Option Z :=
  match x.d, y.d with
  | .int i, .int j => some (zS (.bl (decide (i < j))))
  | .tup a, .tup b => match intsOf a, intsOf b with | some m, some n => some (zS (.bl (HT.lexLt m n))) | _, _ => none
  | _, _ => none
def opLe (x y : Z) : Option Z :=
  match x.d, y.d with
  | .int i, .int j => some (zS (.bl (decide (i ≤ j))))
  | _, _ => none
def opGt (x y : Z) : Option Z :=
  match x.d, y.d with
  | .int i, .int j => some (zS (.bl (decide (j < i))))
  | _, _ => none
def opGe (x y : Z) : Option Z :=
  match x.d, y.d with
  | .int i, .int j => some (zS (.bl (decide (j ≤ i))))
  | _, _ => none
def opIsN (x y : Z) : Option Z :=
  match y.d with
  | .non => match x.d with
    | .non => some (zS (.bl true))
    | .pen => none
    | _ => some (zS (.bl false))
  | .bl b => match x.d with
    | .bl c => some (zS (.bl (decide (c = b))))
    | _ => none
  | _ => none
def opIsnN (x y : Z) : Option Z :=
  match y.d with
  | .non => match x.d with
    | .non => some (zS (.bl false))
    | .pen => none
    | _ => some (zS (.bl true))
  | .bl b => match x.d with
    | .bl c => some (zS (.bl (!decide (c = b))))
    | _ => none
  | _ => none
def flatD : D → Bool
  | .non => true
  | .bl _ => true
  | .int _ => true
  | .str _ => true
  | _ => false
def toV : D → V
  | .non => .non
  | .bl b => .bl b
  | .int i => .int i
  | .str x => .str x
  | _ => .non
theorem flat_v {T : Tx} {F : Hp} {d : D} {v : V} (h : flatD d = true) (r : Rp T F d v) : v = toV d ∧ flatV v = true := by
  cases d with
  | non =>
    have r : v = .non := r
    subst r
    exact ⟨rfl, rfl⟩
  | bl b =>
    have r : v = .bl b := r
    subst r
    exact ⟨rfl, rfl⟩
  | int b =>
    have r : v = .int b := r
    subst r
    exact ⟨rfl, rfl⟩
  | str b =>
    have r : v = .str b := r
    subst r
    exact ⟨rfl, rfl⟩
  | tup _ => cases h
  | lst _ => cases h
  | dic _ _ => cases h
  | obj _ _ => cases h
  | fn _ => cases h
  | ty _ => cases h
  | clo _ => cases h
  | pen => cases h
theorem flats_v {T : Tx} {F : Hp} : ∀ {ds : List D} {vs : List V}, ds.all flatD = true → Rps T F ds vs → vs = ds.map toV ∧ vs.all flatV = true
  | [], vs, _, r => by
    have r : vs = [] := r
    subst r
    exact ⟨rfl, rfl⟩
  | d :: ds, vs, h, r => by
    obtain ⟨v, ws, rfl, h1, h2⟩ := r
    rw [List.all_cons, Bool.and_eq_true] at h
    obtain ⟨e1, f1⟩ := flat_v h.1 h1
    obtain ⟨e2, f2⟩ := flats_v h.2 h2
    exact ⟨by rw [e1, e2] <;> rfl, by rw [List.all_cons, f1, f2] <;> rfl⟩
def opInB (neg : Bool) (x y : Z) : Option Z :=
  match y.d with
  | .tup ys => if (flatD x.d && ys.all flatD) = true then some (zS (.bl (if neg then !inV (toV x.d) (ys.map toV) else inV (toV x.d) (ys.map toV)))) else none
  | .lst ys => if (dOk x.d 60 && dOk (.lst ys) 60) = true then some (zS (.bl (if neg then !(toPys ys).any fun z => PyData.eqv z (toPy x.d) else (toPys ys).any fun z => PyData.eqv z (toPy x.d)))) else none
  | _ => none
abbrev opIn := opInB false
abbrev opNin := opInB true

section
variable {X : Cx} {T : Tx} {Wx : WX} {pos : Pos} {a b c : Expr} {f g k : M Z}
theorem rq_eq (hK : T.K = X.K) : ∀ x y H Q, rZ T opEq x y H Q → rEqD X.K x y H Q := fun vx vy H Q h => by
  obtain ⟨Mo, fp, Hx, Hy, x, y, z, c, zx, zy, e, k⟩ := h
  obtain ⟨q, rfl⟩ := some_if e
  rw [Bool.and_eq_true] at q
  rw [← hK]
  exact ⟨_, _, dp_of hid_sub _ _ q.1 zx.wide, dp_of hid_sub _ _ q.2 zy.wide, dOk_shaped q.1 (by decide), dOk_shaped q.2 (by decide), k _ _ (.refl H) (.scalar fun _ => rfl)⟩
theorem rq_ne (hK : T.K = X.K) : ∀ x y H Q, rZ T opNe x y H Q → rNeD X.K x y H Q := fun vx vy H Q h => by
  obtain ⟨Mo, fp, Hx, Hy, x, y, z, c, zx, zy, e, k⟩ := h
  obtain ⟨q, rfl⟩ := some_if e
  rw [Bool.and_eq_true] at q
  rw [← hK]
  exact ⟨_, _, dp_of hid_sub _ _ q.1 zx.wide, dp_of hid_sub _ _ q.2 zy.wide, dOk_shaped q.1 (by decide), dOk_shaped q.2 (by decide), k _ _ (.refl H) (.scalar fun _ => rfl)⟩
theorem rq_lt (hK : T.K = X.K) : ∀ x y H Q, rZ T opLt x y H Q → (rI0 (fun i j => .bl (decide (i < j))) x y H Q ∨ rLtT X.K x y H Q) := fun vx vy H Q h => by
  obtain ⟨Mo, fp, Hx, Hy, x, y, z, c, zx, zy, e, k⟩ := h
  unfold opLt at e
  split at e
  · rename_i i j e1 e2
    cases e
    exact .inl ⟨i, j, zx.int e1, zy.int e2, k _ _ (.refl H) (.scalar fun _ => rfl)⟩
  · rename_i i j e1 e2
    split at e
    · rename_i m n e3 e4
      cases e
      rw [intsOf_eq e3] at e1
      rw [intsOf_eq e4] at e2
      obtain ⟨a, vs, rfl, h1, h2⟩ := zx.tup e1
      obtain ⟨b, ws, rfl, h3, h4⟩ := zy.tup e2
      rw [h2.ints] at h1
      rw [h4.ints] at h3
      exact .inr ⟨a, b, m, n, rfl, rfl, hK ▸ hid_sub.sqt h1, hK ▸ hid_sub.sqt h3, k _ _ (.refl H) (.scalar fun _ => rfl)⟩
    · cases e
  · cases e
theorem rq_le : ∀ x y H Q, rZ T opLe x y H Q → rI0 (fun i j => .bl (decide (i ≤ j))) x y H Q := fun vx vy H Q h => by
  obtain ⟨Mo, fp, Hx, Hy, x, y, z, c, zx, zy, e, k⟩ := h
  unfold opLe at e
  split at e
  · rename_i i j e1 e2
    cases e
    exact ⟨i, j, zx.int e1, zy.int e2, k _ _ (.refl H) (.scalar fun _ => rfl)⟩
  · cases e
theorem rq_gt : ∀ x y H Q, rZ T opGt x y H Q → rI0 (fun i j => .bl (decide (j < i))) x y H Q := fun vx vy H Q h => by
  obtain ⟨Mo, fp, Hx, Hy, x, y, z, c, zx, zy, e, k⟩ := h
  unfold opGt at e
  split at e
  · rename_i i j e1 e2
    cases e
    exact ⟨i, j, zx.int e1, zy.int e2, k _ _ (.refl H) (.scalar fun _ => rfl)⟩
  · cases e
theorem rq_ge : ∀ x y H Q, rZ T opGe x y H Q → rI0 (fun i j => .bl (decide (j ≤ i))) x y H Q := fun vx vy H Q h => by
  obtain ⟨Mo, fp, Hx, Hy, x, y, z, c, zx, zy, e, k⟩ := h
  unfold opGe at e
  split at e
  · rename_i i j e1 e2
    cases e
    exact ⟨i, j, zx.int e1, zy.int e2, k _ _ (.refl H) (.scalar fun _ => rfl)⟩
  · cases e
theorem not_non {T : Tx} {F : Hp} {d : D} {v : V} (r : Rp T F d v) (h : d ≠ .non) : v ≠ .non := by
  cases d with
  | non => exact absurd rfl h
  | bl b =>
    have r : v = .bl b := r
    rw [r]
    exact fun q => nomatch q
  | int b =>
    have r : v = .int b := r
    rw [r]
    exact fun q => nomatch q
  | str b =>
    have r : v = .str b := r
    rw [r]
    exact fun q => nomatch q
  | tup b =>
    obtain ⟨a, _, r, _⟩ := r
    rw [r]
    exact fun q => nomatch q
  | lst b =>
    obtain ⟨a, _, r, _⟩ := r
    rw [r]
    exact fun q => nomatch q
  | dic k b =>
    obtain ⟨a, _, r, _⟩ := r
    rw [r]
    exact fun q => nomatch q
  | obj k b =>
    obtain ⟨a, _, _, r, _⟩ := r
    rw [r]
    exact fun q => nomatch q
  | fn n =>
    have r : v = .ref (T.fa n) := r
    rw [r]
    exact fun q => nomatch q
  | ty n =>
    have r : v = .ty n := r
    rw [r]
    exact fun q => nomatch q
  | clo n =>
    obtain ⟨a, _, r, _⟩ := r
    rw [r]
    exact fun q => nomatch q
  | pen =>
    obtain ⟨a, r, _⟩ := r
    rw [r]
    exact fun q => nomatch q
abbrev rIsX : R2 := fun x y H Q => (y = .non ∧ Q (.bl (decide (x = .non))) H) ∨ ∃ a b, x = .bl a ∧ y = .bl b ∧ Q (.bl (decide (a = b))) H
abbrev rIsnX : R2 := fun x y H Q => (y = .non ∧ Q (.bl (!decide (x = .non))) H) ∨ ∃ a b, x = .bl a ∧ y = .bl b ∧ Q (.bl (!decide (a = b))) H
theorem rq_is : ∀ x y H Q, rZ T opIsN x y H Q → rIsX x y H Q := fun vx vy H Q h => by
  obtain ⟨Mo, fp, Hx, Hy, x, y, z, c, zx, zy, e, k⟩ := h
  unfold opIsN at e
  split at e
  · rename_i e1
    split at e
    · rename_i e2
      cases e
      refine .inl ⟨zy.non e1, ?_⟩
      rw [zx.non e2, decide_eq_true rfl]
      exact k _ _ (.refl H) (.scalar fun _ => rfl)
    · cases e
    · rename_i e2 e3
      cases e
      refine .inl ⟨zy.non e1, ?_⟩
      rw [decide_eq_false (not_non zx.wide e2)]
      exact k _ _ (.refl H) (.scalar fun _ => rfl)
  · rename_i b e1
    split at e
    · rename_i c' e2
      cases e
      exact .inr ⟨c', b, zx.bl e2, zy.bl e1, k _ _ (.refl H) (.scalar fun _ => rfl)⟩
    · cases e
  · cases e
theorem rq_isn : ∀ x y H Q, rZ T opIsnN x y H Q → rIsnX x y H Q := fun vx vy H Q h => by
  obtain ⟨Mo, fp, Hx, Hy, x, y, z, c, zx, zy, e, k⟩ := h
  unfold opIsnN at e
  split at e
  · rename_i e1
    split at e
    · rename_i e2
      cases e
      refine .inl ⟨zy.non e1, ?_⟩
      rw [zx.non e2, decide_eq_true rfl]
      exact k _ _ (.refl H) (.scalar fun _ => rfl)
    · cases e
    · rename_i e2 e3
      cases e
      refine .inl ⟨zy.non e1, ?_⟩
      rw [decide_eq_false (not_non zx.wide e2)]
      exact k _ _ (.refl H) (.scalar fun _ => rfl)
  · rename_i b e1
    split at e
    · rename_i c' e2
      cases e
      exact .inr ⟨c', b, zx.bl e2, zy.bl e1, k _ _ (.refl H) (.scalar fun _ => rfl)⟩
    · cases e
  · cases e
theorem rq_in (hK : T.K = X.K) (neg : Bool) : ∀ x y H Q, rZ T (opInB neg) x y H Q → (rIn X.K neg x y H Q ∨ (if neg then rNotInD X.K x y H Q else rInD X.K x y H Q)) := fun vx vy H Q h => by
  obtain ⟨Mo, fp, Hx, Hy, x, y, z, c, zx, zy, e, k⟩ := h
  unfold opInB at e
  split at e
  · rename_i ys e1
    obtain ⟨q, rfl⟩ := some_if e
    rw [Bool.and_eq_true] at q
    obtain ⟨a, vs, rfl, h1, h2⟩ := zy.tup e1
    obtain ⟨e2, f2⟩ := flat_v q.1 zx.wide
    obtain ⟨e3, f3⟩ := flats_v q.2 h2
    refine .inl ⟨a, vs, rfl, .inr (hK ▸ hid_sub.sqt h1), f2, f3, ?_⟩
    rw [e2, e3]
    exact k _ _ (.refl H) (.scalar fun _ => rfl)
  · rename_i ys e1
    obtain ⟨q, rfl⟩ := some_if e
    rw [Bool.and_eq_true] at q
    have w := zy.wide
    rw [e1] at w
    refine .inr ?_
    have dx := dp_of hid_sub _ _ q.1 zx.wide
    have dy := dp_of hid_sub _ _ q.2 w
    have sx := dOk_shaped q.1 (by decide)
    have sy := dOk_shaped q.2 (by decide)
    rw [hK] at dx dy
    cases neg with
    | true => exact ⟨_, toPys ys, dx, dy, sx, sy, k _ _ (.refl H) (.scalar fun _ => rfl)⟩
    | false => exact ⟨_, toPys ys, dx, dy, sx, sy, k _ _ (.refl H) (.scalar fun _ => rfl)⟩
  · cases e
theorem bl_if {c : Bool} {k : Bool} {z : Z} (e : (if c = true then some (zS (.bl k)) else none) = some z) : ∃ k, z.d = .bl k := by
  obtain ⟨_, rfl⟩ := some_if e
  exact ⟨k, rfl⟩
theorem bq_eq : ∀ x y z, opEq x y = some z → ∃ k, z.d = .bl k := fun x y z e => bl_if e
theorem bq_ne : ∀ x y z, opNe x y = some z → ∃ k, z.d = .bl k := fun x y z e => bl_if e
theorem bq_lt : ∀ x y z, opLt x y = some z → ∃ k, z.d = .bl k := fun x y z e => by
  unfold opLt at e
  split at e
  · cases e
    exact ⟨_, rfl⟩
  · split at e
    · cases e
      exact ⟨_, rfl⟩
    · cases e
  · cases e
theorem bq_le : ∀ x y z, opLe x y = some z → ∃ k, z.d = .bl k := fun x y z e => by
  unfold opLe at e
  split at e <;> cases e
  exact ⟨_, rfl⟩
theorem bq_gt : ∀ x y z, opGt x y = some z → ∃ k, z.d = .bl k := fun x y z e => by
  unfold opGt at e
  split at e <;> cases e
  exact ⟨_, rfl⟩
theorem bq_ge : ∀ x y z, opGe x y = some z → ∃ k, z.d = .bl k := fun x y z e => by
  unfold opGe at e
  split at e <;> cases e
  exact ⟨_, rfl⟩
theorem bq_is : ∀ x y z, opIsN x y = some z → ∃ k, z.d = .bl k := fun x y z e => by
  unfold opIsN at e
  split at e
  · split at e <;> cases e <;> exact ⟨_, rfl⟩
  · split at e <;> cases e
    exact ⟨_, rfl⟩
  · cases e
theorem bq_isn : ∀ x y z, opIsnN x y = some z → ∃ k, z.d = .bl k := fun x y z e => by
  unfold opIsnN at e
  split at e
  · split at e <;> cases e <;> exact ⟨_, rfl⟩
  · split at e <;> cases e
    exact ⟨_, rfl⟩
  · cases e
theorem bq_in (neg : Bool) : ∀ x y z, opInB neg x y = some z → ∃ k, z.d = .bl k := fun x y z e => by
  unfold opInB at e
  split at e
  · exact bl_if e
  · exact bl_if e
  · cases e
theorem or_is : OpR X (compareOp .Is) rIsX := op_isN.or op_is_bl
theorem or_isn : OpR X (compareOp .IsNot) rIsnX := op_notN.or op_isnot_bl
theorem or_in (hu : X.A.units + 65 < cLine) : OpR X (compareOp .In) (fun x y H Q => rIn X.K false x y H Q ∨ rInD X.K x y H Q) := op_in_seq.or (op_inD hu)
theorem or_nin (hu : X.A.units + 65 < cLine) : OpR X (compareOp .NotIn) (fun x y H Q => rIn X.K true x y H Q ∨ rNotInD X.K x y H Q) := op_notIn_seq.or (op_notInD hu)

/-- the comparisons: their rules, what they give, that it is a bool -/
structure CmpD (X : Cx) (T : Tx) (o : CmpOp) (op : Z → Z → Option Z) : Prop where
  ex : ∃ r : R2, OpR X (compareOp o) r ∧ (∀ x y H Q, rZ T op x y H Q → r x y H Q) ∧ ∀ x y z, op x y = some z → ∃ k, z.d = .bl k
theorem cd_eq (hK : T.K = X.K) (hu : X.A.units + 65 < cLine) : CmpD X T .Eq opEq := ⟨_, op_eqD (by omega), rq_eq hK, bq_eq⟩
theorem cd_ne (hK : T.K = X.K) (hu : X.A.units + 65 < cLine) : CmpD X T .NotEq opNe := ⟨_, op_neD (by omega), rq_ne hK, bq_ne⟩
theorem cd_lt (hK : T.K = X.K) (hu : X.A.units + 65 < cLine) : CmpD X T .Lt opLt := ⟨_, op_lt.or (op_ltT (by omega)), rq_lt hK, bq_lt⟩
theorem cd_le : CmpD X T .LtE opLe := ⟨_, op_le, rq_le, bq_le⟩
theorem cd_gt : CmpD X T .Gt opGt := ⟨_, op_gt, rq_gt, bq_gt⟩
theorem cd_ge : CmpD X T .GtE opGe := ⟨_, op_ge, rq_ge, bq_ge⟩
theorem cd_is : CmpD X T .Is opIsN := ⟨_, or_is, rq_is, bq_is⟩
theorem cd_isn : CmpD X T .IsNot opIsnN := ⟨_, or_isn, rq_isn, bq_isn⟩
theorem cd_in (hK : T.K = X.K) (hu : X.A.units + 65 < cLine) : CmpD X T .In opIn := ⟨_, or_in hu, rq_in hK false, bq_in false⟩
theorem cd_nin (hK : T.K = X.K) (hu : X.A.units + 65 < cLine) : CmpD X T .NotIn opNin := ⟨_, or_nin hu, rq_in hK true, bq_in true⟩
theorem de_cmpD {o : CmpOp} {op : Z → Z → Option Z} (c : CmpD X T o op) (ha : DE X T Wx a f) (hb : DE X T Wx b g) (hm : behindInMarks o b = false) : DE X T Wx (.Compare a [o] [b] pos) (eOp op f g) := by
  obtain ⟨r, h1, h2, h3⟩ := c.ex
  exact de_cmp h1 h2 ha hb hm
theorem dt_cmpD {o : CmpOp} {op : Z → Z → Option Z} (c : CmpD X T o op) (ha : DE X T Wx a f) (hb : DE X T Wx b g) (hm : behindInMarks o b = false) : DT X T Wx (.Compare a [o] [b] pos) (eOp op f g) := by
  obtain ⟨r, h1, h2, h3⟩ := c.ex
  exact dt_cmp h1 h2 h3 ha hb hm
/-- a < b < c -/
def eChain (op op' : Z → Z → Option Z) (f g k : M Z) : M Z := fun ρ p => (f ρ p).bind fun x p1 => (g ρ p1).bind fun y p2 =>
  match op x y with
  | some z => match z.d with
    | .bl true => (k ρ p2).bind fun w p3 => match op' y w with | some u => .ok u p3 | none => .bad
    | .bl false => .ok (zS (.bl false)) p2
    | _ => .bad
  | none => .bad
theorem up_chain {op op' : Z → Z → Option Z} {r r' : R2} (hr : ∀ x y H Q, rZ T op x y H Q → r x y H Q) (hr' : ∀ x y H Q, rZ T op' x y H Q → r' x y H Q) (hB : ∀ x y z, op x y = some z → ∃ k, z.d = .bl k)
    {σ : L2.St} {H : Hp} {Q : VK} (h : upE T Wx (eChain op op' f g k) σ H Q) : tChain r r' (upE T Wx f) (upE T Wx g) (upE T Wx k) σ H Q := by
  obtain ⟨H0, Mo, fp, ρ, p, s, h⟩ := h
  refine ⟨H0, Mo, fp, ρ, p, s, h.bind.imp fun x p1 vx H1 _ g1 x1 zx h1 => ?_⟩
  have s1 := s.grows g1 x1
  refine ⟨H0, Mo, fp, ρ, p1, s1, (h1.bind.part g1 s1.nw).imp fun y p2 vy H2 _ g2 x2 zy h2 => hr _ _ _ _ ?_⟩
  have s2 := s1.grows g2 x2
  cases e : op x y with
  | none =>
    rw [e] at h2
    exact h2.elim
  | some z =>
    rw [e] at h2
    obtain ⟨b, eb⟩ := hB _ _ _ e
    refine ⟨Mo, fp, H, H1, x, y, z, s2.ctx, zx.grows g2 x1 s.mo, zy, e, fun v H3 s3 zr => ?_⟩
    have ev := zr.bl eb
    refine ⟨b, ev, ?_⟩
    simp only [eb] at h2
    have x3 := x2.sub s3
    cases b with
    | false =>
      rw [if_neg Bool.false_ne_true]
      exact h2 _ H3 (.of s3) x3 (.scalar fun _ => rfl)
    | true =>
      rw [if_pos rfl]
      have s3' := s2.grows (.of s3) x3
      refine ⟨H0, Mo, fp, ρ, p2, s3', ((EPost.rebase h2 (.of s3)).bind.part ((g1.trans g2).trans (.of s3)) s3'.nw).imp fun w p4 vw H4 _ g4 x4 zw h4 => hr' _ _ _ _ ?_⟩
      have s4 := s3'.grows g4 x4
      cases e' : op' y w with
      | none =>
        rw [e'] at h4
        exact h4.elim
      | some u =>
        rw [e'] at h4
        exact ⟨Mo, fp, H1, H3, y, w, u, s4.ctx, (zy.grows (.of s3) x2 s1.mo).grows g4 x3 s1.mo, zw, e', fun v H5 s5 zr => h4 v H5 (.of s5) (x4.sub s5) (zr.since (((g1.trans g2).trans (.of s3)).trans g4) s4.nw)⟩
end
end DL
set_option Elab.async false
set_option linter.all false
set_option maxRecDepth 100000
set_option maxHeartbeats 2000000
/-! # The data layer, part 4: subscripts, slices, calls of built-ins -/
namespace DL
open PySem PySem.Spec PyProof.Rows L2

theorem Rps.atI {T : Tx} {F : Hp} {ds : List D} {vs : List V} {i : Int} {d : D} (r : Rps T F ds vs) (e : atI ds i = some d) : ∃ v, L2.atI vs i = some v ∧ Rp T F d v := by
  unfold L2.atI at e ⊢
  rw [← r.len]
  cases q : ixN ds.length i with
  | none =>
    rw [q] at e
    cases e
  | some j =>
    rw [q] at e
    exact r.at_ e
def opIdx (x y : Z) : Option Z :=
  match x.d, y.d with
  | .lst l, .int i => match atI l i with | some d => some ⟨d, x.c, x.c, 0⟩ | none => none
  | .tup l, .int i => match atI l i with | some d => some ⟨d, x.c, x.c, 0⟩ | none => none
  | _, _ => none
/-- slices: the part left out, or an int -/
def ePart (f : M Z) : M (Option Int) := fun ρ p => (f ρ p).bind fun x p1 => match x.d with | .int i => .ok (some i) p1 | _ => .bad
def eNoPart : M (Option Int) := fun _ p => .ok none p
def cutD (xs : List D) (lo hi : Option Int) : List D := (xs.drop (HT.sIx xs.length 0 lo)).take (HT.sIx xs.length xs.length hi - HT.sIx xs.length 0 lo)
theorem Rps.cut {T : Tx} {F : Hp} {ds : List D} {vs : List V} (r : Rps T F ds vs) (lo hi : Option Int) : Rps T F (cutD ds lo hi) (cutV vs lo hi) := by
  unfold cutD cutV
  rw [r.len]
  exact (r.drop _).take _
def opCut (x : Z) (lo hi : Option Int) : Option Z :=
  match x.d with
  | .lst l => some ⟨.lst (cutD l lo hi), [], x.c, 1⟩
  | .tup l => some ⟨.tup (cutD l lo hi), x.b, x.c, 0⟩
  | _ => none
def eSlice (f : M Z) (l h : M (Option Int)) : M Z := fun ρ p => (f ρ p).bind fun x p1 => (l ρ p1).bind fun lo p2 => (h ρ p2).bind fun hi p3 => match opCut x lo hi with | some z => .ok z p3 | none => .bad
section
variable {X : Cx} {T : Tx} {Wx : WX} {pos p2 : Pos} {a b c : Expr} {f g k : M Z} {H0 : Hp} {Mo : Addr → Prop} {fp : Nat → List Addr}
theorem ZRep.kid {Hs H : Hp} {x : Z} {v w : V} {d : D} (s : Rp T (hid (Hd Mo fp x.c) H) d w) : ZRep T Mo fp Hs ⟨d, x.c, x.c, 0⟩ w H := ⟨.of s, fun n => absurd rfl n⟩
theorem de_idx (hK : T.K = X.K) (ha : DE X T Wx a f) (hb : DE X T Wx b g) (hs : PlainIx b := by exact fun _ _ => rfl) : DE X T Wx (.Subscript a b pos) (eOp opIdx f g) := by
  refine (pe_ix ix_seq ha hb hs).mono fun σ H Q h => up_two (fun vx vy H Q h => ?_) h
  obtain ⟨Mo, fp, Hx, Hy, x, y, z, c, zx, zy, e, k⟩ := h
  unfold opIdx at e
  split at e
  · rename_i l i e1 e2
    split at e
    · rename_i d e3
      cases e
      obtain ⟨q, vs, rfl, h1, h2⟩ := zx.lst e1
      obtain ⟨w, e4, r⟩ := h2.atI e3
      exact .inl ⟨q, vs, i, w, rfl, zy.int e2, .of h1, e4, k _ _ (.refl H) (.kid (v := w) r)⟩
    · cases e
  · rename_i l i e1 e2
    split at e
    · rename_i d e3
      cases e
      obtain ⟨q, vs, rfl, h1, h2⟩ := zx.tup e1
      obtain ⟨w, e4, r⟩ := h2.atI e3
      exact .inr (.inl ⟨q, vs, i, w, rfl, zy.int e2, hK ▸ hid_sub.sqt h1, e4, k _ _ (.refl H) (.kid (v := w) r)⟩)
    · cases e
  · cases e
def OPost (T : Tx) (Wx : WX) (H0 : Hp) (Mo : Addr → Prop) (H : Hp) (r : R (Option Int)) (Q : Option Int → Hp → Prop) : Prop :=
  match r with
  | .ok o p => ∀ H', Gr T H H' → PenRep T Mo p H' → Q o H'
  | .exc c fs p => XPost T Wx H0 Mo c fs p
  | .bad => False
def upO (T : Tx) (Wx : WX) (m : M (Option Int)) : TO := fun σ H Q => ∃ H0 Mo fp ρ p, SRep T H0 Mo fp ρ p σ H ∧ OPost T Wx H0 Mo H (m ρ p) Q
theorem po_mono {e : Option Expr} {t t' : TO} (h : PO X e t) (k : ∀ σ H Q, t' σ H Q → t σ H Q) : PO X e t' := ⟨fun pins s σ H Q I q => h.run pins s σ H Q I (k σ H Q q)⟩
theorem do_none : PO X none (upO T Wx eNoPart) := po_mono po_none fun σ H Q h => by
  obtain ⟨H0, Mo, fp, ρ, p, s, h⟩ := h
  exact h H (.refl H) s.pen
theorem do_some (ha : DE X T Wx a f) : PO X (some a) (upO T Wx (ePart f)) := po_mono (po_some ha) fun σ H Q h => by
  obtain ⟨H0, Mo, fp, ρ, p, s, h⟩ := h
  refine ⟨H0, Mo, fp, ρ, p, s, ?_⟩
  unfold ePart at h
  cases e1 : f ρ p with
  | bad =>
    rw [e1] at h
    exact h.elim
  | exc c fs p1 =>
    rw [e1] at h
    exact h
  | ok x p1 =>
    rw [e1] at h
    intro v H1 g1 x1 zr
    have h : OPost T Wx H0 Mo H (match x.d with | .int i => .ok (some i) p1 | _ => .bad) Q := h
    cases e2 : x.d with
    | int i =>
      simp only [e2] at h
      exact ⟨i, zr.int e2, h H1 g1 x1⟩
    | non => simp only [e2] at h; exact h.elim
    | bl _ => simp only [e2] at h; exact h.elim
    | str _ => simp only [e2] at h; exact h.elim
    | tup _ => simp only [e2] at h; exact h.elim
    | lst _ => simp only [e2] at h; exact h.elim
    | dic _ _ => simp only [e2] at h; exact h.elim
    | obj _ _ => simp only [e2] at h; exact h.elim
    | fn _ => simp only [e2] at h; exact h.elim
    | ty _ => simp only [e2] at h; exact h.elim
    | clo _ => simp only [e2] at h; exact h.elim
    | pen => simp only [e2] at h; exact h.elim
theorem de_slice {lo hi : Option Expr} {l h : M (Option Int)} (hK : T.K = X.K) (ha : DE X T Wx a f) (hl : PO X lo (upO T Wx l)) (hu : PO X hi (upO T Wx h)) : DE X T Wx (.Subscript a (.Slice lo hi none p2) pos) (eSlice f l h) := by
  refine (pe_slice (sl_list.or sl_tupA) ha hl hu).mono fun σ H Q q => ?_
  obtain ⟨H0, Mo, fp, ρ, p, s, q⟩ := q
  refine ⟨H0, Mo, fp, ρ, p, s, ?_⟩
  unfold eSlice at q
  cases e1 : f ρ p with
  | bad =>
    rw [e1] at q
    exact q.elim
  | exc c fs p1 =>
    rw [e1] at q
    exact q
  | ok x p1 =>
    rw [e1] at q
    intro v H1 g1 x1 zr
    have s1 := s.grows g1 x1
    refine ⟨H0, Mo, fp, ρ, p1, s1, ?_⟩
    have q : EPost T Wx H0 Mo fp H H ((l ρ p1).bind fun lo p2 => (h ρ p2).bind fun hi p3 => match opCut x lo hi with | some z => .ok z p3 | none => .bad) fun _ _ v H' => Q v H' := q
    cases e2 : l ρ p1 with
    | bad =>
      rw [e2] at q
      exact q.elim
    | exc c fs p2 =>
      rw [e2] at q
      exact q
    | ok lo p2 =>
      rw [e2] at q
      intro H2 g2 x2
      have s2 := s1.grows g2 x2
      refine ⟨H0, Mo, fp, ρ, p2, s2, ?_⟩
      have q : EPost T Wx H0 Mo fp H H ((h ρ p2).bind fun hi p3 => match opCut x lo hi with | some z => .ok z p3 | none => .bad) fun _ _ v H' => Q v H' := q
      cases e3 : h ρ p2 with
      | bad =>
        rw [e3] at q
        exact q.elim
      | exc c fs p3 =>
        rw [e3] at q
        exact q
      | ok hi p3 =>
        rw [e3] at q
        intro H3 g3 x3
        have s3 := s2.grows g3 x3
        have q : EPost T Wx H0 Mo fp H H (match opCut x lo hi with | some z => .ok z p3 | none => .bad) fun _ _ v H' => Q v H' := q
        have gg := (g1.trans g2).trans g3
        have zr := (zr.grows g2 x1 s.mo).grows g3 x2 s.mo
        unfold opCut at q
        split at q
        · rename_i z e
          split at e
          · rename_i l e4
            cases e
            obtain ⟨r, vs, rfl, h1, h2⟩ := zr.lst e4
            exact .inl ⟨r, vs, rfl, .of h1, fun p np => q _ _ (gg.trans (.of (.new np))) (x3.sub (.new np)) ((s3.ctx.newLst np (h2.cut lo hi)).since gg s3.nw)⟩
          · rename_i l e4
            cases e
            obtain ⟨r, vs, rfl, h1, h2⟩ := zr.tup e4
            refine .inr ⟨r, vs, rfl, hK ▸ hid_sub.sqt h1, fun w => ?_, fun w p np => ?_⟩
            · have e5 : cutD l lo hi = l := by
                unfold cutD
                rw [h2.len, w.1, w.2, List.drop_zero, Nat.sub_zero, ← h2.len, List.take_length]
              exact q _ H3 gg x3 ⟨⟨r, vs, rfl, h1, by rw [e5]; exact h2⟩, fun n => absurd rfl n⟩
            · have nt := s3.ctx.newTup np (h2.cut lo hi)
              exact q _ _ (gg.trans (.of (.new np))) (x3.sub (.new np)) ⟨nt.val.sub (hd_sub fun i hi => absurd hi (by simp)) fun _ _ z => z, fun n => absurd rfl n⟩
          · cases e
        · exact q.elim
end

/-! ### built-in functions and types by values -/
def rZs (T : Tx) (op : List Z → Option Z) : List V → Hp → VK → Prop := fun vs H Q => ∃ Mo fp zs z, Ctx0 Mo fp H ∧ ZReps T Mo fp H zs vs ∧ op zs = some z ∧ ∀ v H', Sub H H' → ZRep T Mo fp H z v H' → Q v H'
def eCB (op : List Z → Option Z) (g : M (List Z)) : M Z := fun ρ p => (g ρ p).bind fun zs p1 => match op zs with | some z => .ok z p1 | none => .bad
section
variable {X : Cx} {T : Tx} {Wx : WX} {p pos : Pos} {x : Str} {id : String} {e : Expr} {es : List Expr} {g : M (List Z)} {op : List Z → Option Z} {r : List V → Hp → VK → Prop}
theorem up_cb (hr : ∀ xs H Q, rZs T op xs H Q → r xs H Q) {σ : L2.St} {H : Hp} {Q : VK} (h : upE T Wx (eCB op g) σ H Q) : tCB r (upA T Wx g) σ H Q := by
  obtain ⟨H0, Mo, fp, ρ, p, s, h⟩ := h
  refine ⟨H0, Mo, fp, ρ, p, s, ?_⟩
  unfold eCB at h
  cases e1 : g ρ p with
  | bad =>
    rw [e1] at h
    exact h.elim
  | exc c fs p1 =>
    rw [e1] at h
    exact h
  | ok zs p1 =>
    rw [e1] at h
    intro vs H1 g1 x1 zrs
    have s1 := s.grows g1 x1
    have h : EPost T Wx H0 Mo fp H H (match op zs with | some z => .ok z p1 | none => .bad) fun _ _ v H' => Q v H' := h
    cases e2 : op zs with
    | none =>
      rw [e2] at h
      exact h.elim
    | some z =>
      rw [e2] at h
      exact hr _ _ _ ⟨Mo, fp, zs, z, s1.ctx, zrs, e2, fun v H2 s2 zr => h v H2 (g1.trans (.of s2)) (x1.sub s2) (zr.since g1 s1.nw)⟩
structure BiD (X : Cx) (T : Tx) (f : Value) (op : List Z → Option Z) : Prop where
  ex : ∃ r, CallR X f r ∧ ∀ xs H Q, rZs T op xs H Q → r xs H Q
theorem de_bi (c : BiD X T (.builtin id) op) (hg : Gl X x) (hm : X.mg x = none) (hv : bootBuiltins x = some (.builtin id)) (ha : DA X T Wx (e :: es) g) (hn : x ≠ "__name__" := by decide) (hdb : (x == ("__debug__" : Str)) = false := by decide)
    (he : starEach (e :: es) X.env = (false, eval e X.env) :: starEach es X.env := by rfl) (hpl : (backTo pos (starEach es X.env)).any (·.1) = false := by rfl) : DE X T Wx (.Call (.Name x p) (e :: es) [] pos) (eCB op g) := by
  obtain ⟨r, h1, h2⟩ := c.ex
  exact (pe_callB h1 hg hm hv ha hn hdb he hpl).mono fun _ _ _ h => up_cb h2 h
theorem de_ty (c : BiD X T (.type id) op) (hg : Gl X x) (hm : X.mg x = none) (hv : bootBuiltins x = some (.type id)) (ha : DA X T Wx (e :: es) g) (hn : x ≠ "__name__" := by decide) (hdb : (x == ("__debug__" : Str)) = false := by decide)
    (he : starEach (e :: es) X.env = (false, eval e X.env) :: starEach es X.env := by rfl) (hpl : (backTo pos (starEach es X.env)).any (·.1) = false := by rfl) : DE X T Wx (.Call (.Name x p) (e :: es) [] pos) (eCB op g) := by
  obtain ⟨r, h1, h2⟩ := c.ex
  exact (pe_callTy h1 hg hm hv ha hn hdb he hpl).mono fun _ _ _ h => up_cb h2 h
end
theorem ZReps.one {T : Tx} {Mo : Addr → Prop} {fp : Nat → List Addr} {H : Hp} {z : Z} {vs : List V} (h : ZReps T Mo fp H [z] vs) : ∃ Hs v, vs = [v] ∧ ZRep T Mo fp Hs z v H := by
  cases h with
  | cons a ns t =>
    cases t
    exact ⟨_, _, rfl, a⟩
theorem ZReps.two {T : Tx} {Mo : Addr → Prop} {fp : Nat → List Addr} {H : Hp} {z y : Z} {vs : List V} (h : ZReps T Mo fp H [z, y] vs) : ∃ Hs Ht v w, vs = [v, w] ∧ ZRep T Mo fp Hs z v H ∧ ZRep T Mo fp Ht y w H := by
  cases h with
  | cons a ns t =>
    obtain ⟨Ht, w, rfl, b⟩ := t.one
    exact ⟨_, _, _, _, rfl, a, b⟩

def biLen : List Z → Option Z
  | [x] => match x.d with
    | .lst l => some (zS (.int l.length))
    | .tup l => some (zS (.int l.length))
    | .str s => if s.length ≤ LIM then some (zS (.int s.length)) else none
    | _ => none
  | _ => none
def biAbs : List Z → Option Z
  | [x] => match x.d with
    | .int i => some (zS (.int (if i < 0 then -i else i)))
    | _ => none
  | _ => none
def biMax2 : List Z → Option Z
  | [x, y] => match x.d, y.d with
    | .int i, .int j => some (zS (.int (if j > i then j else i)))
    | _, _ => none
  | _ => none
def biMin2 : List Z → Option Z
  | [x, y] => match x.d, y.d with
    | .int i, .int j => some (zS (.int (if j < i then j else i)))
    | _, _ => none
  | _ => none
def biInt : List Z → Option Z
  | [x] => match x.d with
    | .int i => some (zS (.int i))
    | .bl b => some (zS (.int (if b then 1 else 0)))
    | _ => none
  | _ => none
def blsOf : List D → Option (List Bool)
  | [] => some []
  | .bl i :: r => (blsOf r).map (i :: ·)
  | _ :: _ => none
theorem blsOf_map : ∀ (ns : List Bool), blsOf (ns.map D.bl) = some ns
  | [] => rfl
  | n :: ns => by
    show (blsOf (ns.map D.bl)).map (n :: ·) = _
    rw [blsOf_map ns] <;> rfl
theorem blsOf_eq : ∀ {ds : List D} {ns : List Bool}, blsOf ds = some ns → ds = ns.map D.bl
  | [], ns, h => by
    cases h
    rfl
  | d :: ds, ns, h => by
    cases d with
    | bl i =>
      have h : (blsOf ds).map (i :: ·) = some ns := h
      cases e : blsOf ds with
      | none =>
        rw [e] at h
        cases h
      | some ms =>
        rw [e] at h
        cases h
        rw [blsOf_eq e] <;> rfl
    | non => cases h
    | int _ => cases h
    | str _ => cases h
    | tup _ => cases h
    | lst _ => cases h
    | dic _ _ => cases h
    | obj _ _ => cases h
    | fn _ => cases h
    | ty _ => cases h
    | clo _ => cases h
    | pen => cases h
theorem Rps.bls {T : Tx} {F : Hp} : ∀ {ns : List Bool} {vs : List V}, Rps T F (ns.map D.bl) vs → vs = ns.map V.bl
  | [], vs, h => h
  | n :: ns, vs, h => by
    obtain ⟨w, r, rfl, h2, h3⟩ := h
    have h2 : w = .bl n := h2
    rw [h2, h3.bls] <;> rfl
def biSum : List Z → Option Z
  | [x] => match x.d with
    | .lst l => match intsOf l with | some ns => some (zS (.int ns.sum)) | none => none
    | .tup l => match intsOf l with | some ns => some (zS (.int ns.sum)) | none => none
    | _ => none
  | _ => none
def biAll : List Z → Option Z
  | [x] => match x.d with
    | .lst l => match blsOf l with | some ns => some (zS (.bl (ns.all id))) | none => none
    | _ => none
  | _ => none
def biAny : List Z → Option Z
  | [x] => match x.d with
    | .lst l => match blsOf l with | some ns => some (zS (.bl (ns.any id))) | none => none
    | _ => none
  | _ => none
def biList : List Z → Option Z
  | [x] => match x.d with
    | .lst l => some ⟨.lst l, [], x.c, 1⟩
    | .tup l => some ⟨.lst l, [], x.c, 1⟩
    | _ => none
  | _ => none
def biTuple : List Z → Option Z
  | [x] => match x.d with
    | .lst l => some ⟨.tup l, [], x.c, 0⟩
    | .tup l => some ⟨.tup l, x.b, x.c, 0⟩
    | _ => none
  | _ => none
section
variable {X : Cx} {T : Tx}
theorem bi_len (hK : T.K = X.K) : BiD X T (.builtin "len") biLen := by
  refine ⟨_, call_len, fun xs H Q h => ?_⟩
  obtain ⟨Mo, fp, zs, z, c, zr, e, k⟩ := h
  unfold biLen at e
  split at e
  · rename_i x
    obtain ⟨Hs, v, rfl, zx⟩ := zr.one
    split at e
    · rename_i l e1
      cases e
      obtain ⟨a, vs, rfl, h1, h2⟩ := zx.lst e1
      exact ⟨_, vs.length, rfl, .inl ⟨vs, .of h1, rfl⟩, k _ _ (.refl H) (.scalar fun _ => by rw [h2.len] <;> rfl)⟩
    · rename_i l e1
      cases e
      obtain ⟨a, vs, rfl, h1, h2⟩ := zx.tup e1
      exact ⟨_, vs.length, rfl, .inr ⟨vs, hK ▸ hid_sub.sqt h1, rfl⟩, k _ _ (.refl H) (.scalar fun _ => by rw [h2.len] <;> rfl)⟩
    · rename_i s e1
      obtain ⟨q, rfl⟩ := some_if e
      have ev := zx.str e1
      subst ev
      exact ⟨_, s.length, rfl, ⟨lim_le q, rfl⟩, k _ _ (.refl H) (.scalar fun _ => rfl)⟩
    · cases e
  · cases e
theorem bi_abs : BiD X T (.builtin "abs") biAbs := by
  refine ⟨_, call_abs, fun xs H Q h => ?_⟩
  obtain ⟨Mo, fp, zs, z, c, zr, e, k⟩ := h
  unfold biAbs at e
  split at e
  · obtain ⟨Hs, v, rfl, zx⟩ := zr.one
    split at e
    · rename_i i e1
      cases e
      exact ⟨i, by rw [zx.int e1], k _ _ (.refl H) (.scalar fun _ => rfl)⟩
    · cases e
  · cases e
theorem bi_max2 (hc : X.calm = true) : BiD X T (.builtin "max") biMax2 := by
  refine ⟨_, call_max2 hc, fun xs H Q h => ?_⟩
  obtain ⟨Mo, fp, zs, z, c, zr, e, k⟩ := h
  unfold biMax2 at e
  split at e
  · obtain ⟨Hs, Ht, v, w, rfl, zx, zy⟩ := zr.two
    split at e
    · rename_i i j e1 e2
      cases e
      exact ⟨i, j, by rw [zx.int e1, zy.int e2], k _ _ (.refl H) (.scalar fun _ => rfl)⟩
    · cases e
  · cases e
theorem bi_min2 (hc : X.calm = true) : BiD X T (.builtin "min") biMin2 := by
  refine ⟨_, call_min2 hc, fun xs H Q h => ?_⟩
  obtain ⟨Mo, fp, zs, z, c, zr, e, k⟩ := h
  unfold biMin2 at e
  split at e
  · obtain ⟨Hs, Ht, v, w, rfl, zx, zy⟩ := zr.two
    split at e
    · rename_i i j e1 e2
      cases e
      exact ⟨i, j, by rw [zx.int e1, zy.int e2], k _ _ (.refl H) (.scalar fun _ => rfl)⟩
    · cases e
  · cases e
theorem bi_int : BiD X T (.type "int") biInt := by
  refine ⟨_, call_int1, fun xs H Q h => ?_⟩
  obtain ⟨Mo, fp, zs, z, c, zr, e, k⟩ := h
  unfold biInt at e
  split at e
  · obtain ⟨Hs, v, rfl, zx⟩ := zr.one
    split at e
    · rename_i i e1
      cases e
      exact .inl ⟨i, by rw [zx.int e1], k _ _ (.refl H) (.scalar fun _ => rfl)⟩
    · rename_i i e1
      cases e
      exact .inr ⟨i, by rw [zx.bl e1], k _ _ (.refl H) (.scalar fun _ => rfl)⟩
    · cases e
  · cases e
theorem sumT_raw {prog : Program} {w : World} {A : Around} {E : Value → Shared → Prop} {s : Shared} {l : Addr} {its : List Value} {ns : List Int} {Q : Value → Shared → Prop} (hh : A.handled = none) (hl : s.heap.IsTuple l its.toArray) (hi : IntsAre its ns)
    (h : ∀ h' tk t', (∀ b o, s.heap.get? b = some o → h'.get? b = some o) → Q (.int ns.sum t') { s with heap := h', toks := tk }) : wpAny (model prog w) A (call (.builtin "sum") [.ref l]) Q E s := by
  obtain ⟨xs, e⟩ := hi.allInts.items
  have hn : numsOf (intItems xs).toList = ns := by rw [← e]; exact hi.numsOf
  rw [nums_intItems] at hn
  rw [e] at hl
  refine PySem.W.ktm_sumG hh hl fun h' tk t' hk => ?_
  have := h h' tk t' hk
  rw [preSum_eq, List.take_of_length_le (by simp), hn]; exact this
def rSumLT (K : PySem.W.Frag) : List V → Hp → VK → Prop := fun vs H Q => ∃ (a : Addr) (ns : List Int), vs = [V.ref a] ∧ (SqL K H a (ns.map V.int) ∨ SqT K H a (ns.map V.int)) ∧ Q (.int ns.sum) H
theorem cr_sumLT {X : Cx} (hc : X.calm = true) : CallR X (.builtin "sum") (rSumLT X.K) := by
  intro pins s σ H vs us Q I r h
  obtain ⟨a, ns, rfl, hs | hs, q⟩ := h
  · exact cr_sum hc _ _ _ _ _ us Q I r ⟨a, ns, rfl, hs, q⟩
  · obtain ⟨its, rv, hl, _⟩ := I.tuple hs
    rw [Vals.ref1 r]
    exact sumT_raw (I.ok.hd hc) hl rv.ints fun h' tk t' hk => ⟨.int _, H, I.kept hk, ⟨_, rfl⟩, q⟩
theorem bi_sum (hK : T.K = X.K) (hc : X.calm = true) : BiD X T (.builtin "sum") biSum := by
  refine ⟨_, cr_sumLT hc, fun xs H Q h => ?_⟩
  obtain ⟨Mo, fp, zs, z, c, zr, e, k⟩ := h
  unfold biSum at e
  split at e
  · obtain ⟨Hs, v, rfl, zx⟩ := zr.one
    split at e
    · rename_i l e1
      split at e
      · rename_i ns e2
        cases e
        rw [intsOf_eq e2] at e1
        obtain ⟨a, vs, rfl, h1, h2⟩ := zx.lst e1
        rw [h2.ints] at h1
        exact ⟨a, ns, rfl, .inl (.of h1), k _ _ (.refl H) (.scalar fun _ => rfl)⟩
      · cases e
    · rename_i l e1
      split at e
      · rename_i ns e2
        cases e
        rw [intsOf_eq e2] at e1
        obtain ⟨a, vs, rfl, h1, h2⟩ := zx.tup e1
        rw [h2.ints, hK] at h1
        exact ⟨a, ns, rfl, .inr (hid_sub.sqt h1), k _ _ (.refl H) (.scalar fun _ => rfl)⟩
      · cases e
    · cases e
  · cases e
theorem bi_all (hc : X.calm = true) : BiD X T (.builtin "all") biAll := by
  refine ⟨_, cr_all hc, fun xs H Q h => ?_⟩
  obtain ⟨Mo, fp, zs, z, c, zr, e, k⟩ := h
  unfold biAll at e
  split at e
  · obtain ⟨Hs, v, rfl, zx⟩ := zr.one
    split at e
    · rename_i l e1
      split at e
      · rename_i ns e2
        cases e
        rw [blsOf_eq e2] at e1
        obtain ⟨a, vs, rfl, h1, h2⟩ := zx.lst e1
        rw [h2.bls] at h1
        exact ⟨a, ns, rfl, .of h1, k _ _ (.refl H) (.scalar fun _ => rfl)⟩
      · cases e
    · cases e
  · cases e
theorem bi_any (hc : X.calm = true) : BiD X T (.builtin "any") biAny := by
  refine ⟨_, cr_any hc, fun xs H Q h => ?_⟩
  obtain ⟨Mo, fp, zs, z, c, zr, e, k⟩ := h
  unfold biAny at e
  split at e
  · obtain ⟨Hs, v, rfl, zx⟩ := zr.one
    split at e
    · rename_i l e1
      split at e
      · rename_i ns e2
        cases e
        rw [blsOf_eq e2] at e1
        obtain ⟨a, vs, rfl, h1, h2⟩ := zx.lst e1
        rw [h2.bls] at h1
        exact ⟨a, ns, rfl, .of h1, k _ _ (.refl H) (.scalar fun _ => rfl)⟩
      · cases e
    · cases e
  · cases e
theorem bi_list (hK : T.K = X.K) : BiD X T (.type "list") biList := by
  refine ⟨_, call_list_of, fun xs H Q h => ?_⟩
  obtain ⟨Mo, fp, zs, z, c, zr, e, k⟩ := h
  unfold biList at e
  split at e
  · obtain ⟨Hs, v, rfl, zx⟩ := zr.one
    split at e
    · rename_i l e1
      cases e
      obtain ⟨a, vs, rfl, h1, h2⟩ := zx.lst e1
      exact ⟨a, vs, rfl, .inl (.of h1), fun p np => k _ _ (.new np) (c.newLst np h2)⟩
    · rename_i l e1
      cases e
      obtain ⟨a, vs, rfl, h1, h2⟩ := zx.tup e1
      exact ⟨a, vs, rfl, .inr (hK ▸ hid_sub.sqt h1), fun p np => k _ _ (.new np) (c.newLst np h2)⟩
    · cases e
  · cases e
theorem bi_tuple (hK : T.K = X.K) : BiD X T (.type "tuple") biTuple := by
  refine ⟨_, call_tuple_of, fun xs H Q h => ?_⟩
  obtain ⟨Mo, fp, zs, z, c, zr, e, k⟩ := h
  unfold biTuple at e
  split at e
  · obtain ⟨Hs, v, rfl, zx⟩ := zr.one
    split at e
    · rename_i l e1
      cases e
      obtain ⟨a, vs, rfl, h1, h2⟩ := zx.lst e1
      exact ⟨a, vs, rfl, .inl ⟨.of h1, fun p np => k _ _ (.new np) (c.newTup np h2)⟩⟩
    · rename_i l e1
      cases e
      obtain ⟨a, vs, rfl, h1, h2⟩ := zx.tup e1
      exact ⟨a, vs, rfl, .inr ⟨hK ▸ hid_sub.sqt h1, k _ _ (.refl H) ⟨⟨a, vs, rfl, h1, h2⟩, fun n => absurd rfl n⟩⟩⟩
    · cases e
  · cases e

/-! isinstance -/
def tyN : D → Option String
  | .non => some "NoneType"
  | .bl _ => some "bool"
  | .int _ => some "int"
  | .str _ => some "str"
  | .tup _ => some "tuple"
  | .lst _ => some "list"
  | .dic _ _ => some "dict"
  | _ => none
def tyNames : List String := ["NoneType", "bool", "int", "str", "tuple", "list", "dict"]
def isTy (a b : String) : Bool := (a == b) || ((a == "bool") && (b == "int"))
theorem isTy_kit : (tyNames.all fun a => ["bool", "int", "str", "tuple", "list", "dict"].all fun b => decide (kitB a b = some (isTy a b))) = true := by decide +kernel
theorem isTy_ok {K : PySem.W.Frag} {a b : String} (ha : a ∈ tyNames) (hb : b ∈ ["bool", "int", "str", "tuple", "list", "dict"]) : PySem.W.kitOne K (.type a) (.type b) = some (isTy a b) := by
  have h := List.all_eq_true.mp isTy_kit a ha
  have h2 := List.all_eq_true.mp h b hb
  exact kit_ty (of_decide_eq_true h2)
theorem tyN_mem {d : D} {n : String} (h : tyN d = some n) : n ∈ tyNames := by
  cases d <;> cases h <;> decide
theorem tyN_ok {F H : Hp} (s : Sub F H) {d : D} {v : V} {n : String} (e : tyN d = some n) (r : Rp T F d v) : TyX T.K H v (.type n) := by
  cases d with
  | non =>
    cases e
    have r : v = .non := r
    subst r
    exact .base .non
  | bl b =>
    cases e
    have r : v = .bl b := r
    subst r
    exact .base (.bl b)
  | int b =>
    cases e
    have r : v = .int b := r
    subst r
    exact .base (.int b)
  | str b =>
    cases e
    have r : v = .str b := r
    subst r
    exact .base (.str b)
  | tup ds =>
    cases e
    obtain ⟨a, vs, rfl, h1, _⟩ := r
    rcases s.sqt h1 with (h | ⟨o, h⟩) | ⟨o, its, m, h, hc, _⟩
    · exact .base (.tup h)
    · exact .fTuple h
    · exact .kTuple h hc
  | lst ds =>
    cases e
    obtain ⟨a, vs, rfl, h1, _⟩ := r
    exact .base (.lst (s _ _ h1))
  | dic ks es =>
    cases e
    obtain ⟨a, kvs, rfl, h1, _⟩ := r
    exact .base (.dK (s _ _ h1))
  | obj _ _ => cases e
  | fn _ => cases e
  | ty _ => cases e
  | clo _ => cases e
  | pen => cases e
def biIsi : List Z → Option Z
  | [x, y] => match tyN x.d, y.d with
    | some a, .ty b => if decide (b ∈ ["bool", "int", "str", "tuple", "list", "dict"]) = true then some (zS (.bl (isTy a b))) else none
    | _, _ => none
  | _ => none
theorem bi_isi (hK : T.K = X.K) : BiD X T (.builtin "isinstance") biIsi := by
  refine ⟨_, call_isi, fun xs H Q h => ?_⟩
  obtain ⟨Mo, fp, zs, z, c, zr, e, k⟩ := h
  unfold biIsi at e
  split at e
  · rename_i x y
    obtain ⟨Hs, Ht, v, w, rfl, zx, zy⟩ := zr.two
    split at e
    · rename_i a b e1 e2
      obtain ⟨q, rfl⟩ := some_if e
      have tx := tyN_ok hid_sub e1 zx.wide
      have wy := zy.wide
      rw [e2] at wy
      have wy : w = .ty b := wy
      subst wy
      exact ⟨v, .ty b, .type a, .type b, isTy a b, rfl, .ty b, hK ▸ tx, isTy_ok (tyN_mem e1) (of_decide_eq_true q), k _ _ (.refl H) (.scalar fun _ => rfl)⟩
    · cases e
  · cases e
end
/-- isinstance(e, (a, b)) -/
def opIsi2 (b c : String) (x : Z) : Option Z := match tyN x.d with | some a => some (zS (.bl (isTy a b || isTy a c))) | none => none
def eIsi2 (b c : String) (f : M Z) : M Z := eUn (opIsi2 b c) f
section
variable {X : Cx} {T : Tx} {Wx : WX} {pos p pt : Pos} {e e1 e2 : Expr} {f : M Z} {b c : String} {k : Nat}
theorem de_isi2 (hK : T.K = X.K) (ha : DE X T Wx e f) (hb : PE X e1 (tC (.ty b))) (hc : PE X e2 (tC (.ty c))) (hg : Gl X "isinstance") (hm : X.mg "isinstance" = none) (mb : b ∈ ["bool", "int", "str", "tuple", "list", "dict"] := by decide) (mc : c ∈ ["bool", "int", "str", "tuple", "list", "dict"] := by decide)
    (s1 : starEach [e, .Tuple [e1, e2] k pt] X.env = (false, eval e X.env) :: starEach [.Tuple [e1, e2] k pt] X.env := by rfl) (s2 : starEach [.Tuple [e1, e2] k pt] X.env = (false, eval (.Tuple [e1, e2] k pt) X.env) :: starEach [] X.env := by rfl)
    (s3 : starEach [e1, e2] X.env = (false, eval e1 X.env) :: starEach [e2] X.env := by rfl) (s4 : starEach [e2] X.env = (false, eval e2 X.env) :: starEach [] X.env := by rfl) (hpl : (backTo pos (starEach [.Tuple [e1, e2] k pt] X.env)).any (·.1) = false := by rfl) :
    DE X T Wx (.Call (.Name "isinstance" p) [e, .Tuple [e1, e2] k pt] [] pos) (eIsi2 b c f) := by
  refine (pe_callB call_isiT hg hm (by decide +kernel) (pa_cons ha (pa_cons (pe_tup (pa_cons hb (pa_cons hc pa_nil s4) s3)) pa_nil s2) s1) (by decide) (by decide) s1 hpl).mono fun σ H Q h => ?_
  have h := up_one (r := fun v H Q => 2 ≤ sizeLine ∧ ∀ t, H t = none → rIsiT X.K [v, .ref t] (upd H t (.tup [.ty b, .ty c])) Q) (fun v H Q h => ?_) h
  · exact h
  · obtain ⟨Mo, fp, Hs, x, z, c0, zx, e, kk⟩ := h
    refine ⟨by decide +kernel, fun t nt => ?_⟩
    unfold opIsi2 at e
    split at e
    · rename_i a e1
      cases e
      have tx := tyN_ok (H := upd H t (.tup [.ty b, .ty c])) (Sub.trans hid_sub (.new nt)) e1 zx.wide
      have m1 := isTy_ok (K := X.K) (tyN_mem e1) mb
      have m2 := isTy_ok (K := X.K) (tyN_mem e1) mc
      have any : PySem.W.kitAny X.K (.type a) [.type b, .type c] = some (isTy a b || isTy a c) := kitAny_cons m1 (fun e => by rw [e, Bool.false_or]; exact kitAny_cons m2 (fun e => by rw [e]; exact kitAny_nil) fun e => e) fun e => by rw [e, Bool.true_or]
      exact ⟨v, t, [.ty b, .ty c], .type a, [.type b, .type c], _, rfl, upd_same, .cons (.ty b) (.cons (.ty c) .nil), hK ▸ tx, any, kk _ _ (.new nt) (.scalar fun _ => rfl)⟩
    · cases e
end
end DL
set_option Elab.async false
set_option linter.all false
set_option maxRecDepth 100000
set_option maxHeartbeats 2000000
/-! # The data layer, part 5: statements -/
namespace DL
open PySem PySem.Spec PyProof.Rows L2

/-! ### the state changed -/
def frz1 (j : Nat) (ρ : Env) : Env := match ρ[j]? with | some (some c) => ρ.set j (some ⟨c.d, 0⟩) | _ => ρ
def frz : List Nat → Env → Env
  | [], ρ => ρ
  | j :: bs, ρ => frz bs (frz1 j ρ)
theorem frz1_len (j : Nat) (ρ : Env) : (frz1 j ρ).length = ρ.length := by
  unfold frz1
  split
  · rw [List.length_set]
  · rfl
theorem frz_len : ∀ (bs : List Nat) (ρ : Env), (frz bs ρ).length = ρ.length
  | [], _ => rfl
  | j :: bs, ρ => by
    show (frz bs (frz1 j ρ)).length = _
    rw [frz_len bs, frz1_len]
section
variable {T : Tx} {H0 H H' Hs : Hp} {Mo Mo' : Addr → Prop} {fp : Nat → List Addr} {ρ : Env} {p p' : Option Pen} {σ : L2.St} {z : Z} {v : V} {as : List Addr}
/-- what the slot j owned is frozen -/
theorem SRep.frz1 (s : SRep T H0 Mo fp ρ p σ H) (j : Nat) : SRep T H0 Mo (fun i => if i = j then [] else fp i) (frz1 j ρ) p σ H := by
  have up : Sub (hid (Hd Mo fp []) H) (hid (Hd Mo (fun i => if i = j then [] else fp i) []) H) := hid_mono fun a q => by
    rcases q with q | ⟨i, _, q⟩
    · exact .inl (.inl q)
    · dsimp only at q
      by_cases e : i = j
      · rw [if_pos e] at q
        cases q
      · rw [if_neg e] at q
        exact .inl (.inr ⟨i, by simp, q⟩)
  refine ⟨by rw [frz1_len]; exact s.len, s.pen, s.mo, s.grow, s.pb, s.cap, fun i a h => ?_, fun i => ?_, fun i k a h h' => ?_, fun i c e => ?_, fun i h => ?_⟩
  · skip
    by_cases e : i = j
    · rw [if_pos e] at h
      cases h
    · rw [if_neg e] at h
      exact s.fresh i a h
  · show (if i = j then [] else fp i).Nodup
    by_cases e : i = j
    · rw [if_pos e]
      exact List.nodup_nil
    · rw [if_neg e]
      exact s.nod i
  · skip
    by_cases e : i = j
    · rw [if_pos e] at h
      cases h
    · by_cases e' : k = j
      · rw [if_pos e'] at h'
        cases h'
      · rw [if_neg e] at h
        rw [if_neg e'] at h'
        exact s.dis i k a h h'
  · by_cases hj : i = j
    · subst hj
      unfold DL.frz1 at e
      split at e
      · rename_i c' e'
        have hl : i < ρ.length := (List.getElem?_eq_some_iff.mp e').1
        rw [List.getElem?_set_self hl] at e
        cases e
        obtain ⟨v, e1, r⟩ := s.cell i c' e'
        refine ⟨v, e1, ?_⟩
        show OwnR T _ H 0 c'.d v (if i = i then [] else fp i)
        rw [if_pos rfl]
        refine ⟨rfl, r.rp up _ fun a ha o ho => ?_⟩
        rw [hid_out]
        · exact ho
        · intro q
          rcases q with q | ⟨k, _, q⟩
          · exact (s.fresh i a ha).2 q
          · dsimp only at q
            by_cases e2 : k = i
            · rw [if_pos e2] at q
              cases q
            · rw [if_neg e2] at q
              exact e2 (s.dis k i a q ha)
      · rename_i e'
        exact absurd e (e' c)
    · have e' : ρ[i]? = some (some c) := by
        unfold DL.frz1 at e
        split at e
        · rw [List.getElem?_set_ne (fun z => hj z.symm)] at e
          exact e
        · exact e
      obtain ⟨v, e1, r⟩ := s.cell i c e'
      refine ⟨v, e1, ?_⟩
      show OwnR T _ H c.o c.d v (if i = j then [] else fp i)
      rw [if_neg hj]
      exact r.step up _ fun a _ o ho => ho
  · show (if i = j then [] else fp i) = []
    by_cases hj : i = j
    · rw [if_pos hj]
    · rw [if_neg hj]
      refine s.none_ i fun c e => h c ?_
      unfold DL.frz1
      split
      · rw [List.getElem?_set_ne (fun z => hj z.symm)]
        exact e
      · exact e
def frzFp : List Nat → (Nat → List Addr) → Nat → List Addr
  | [], fp => fp
  | j :: bs, fp => frzFp bs fun i => if i = j then [] else fp i
theorem SRep.frz : ∀ (bs : List Nat) {fp : Nat → List Addr} {ρ : Env}, SRep T H0 Mo fp ρ p σ H → SRep T H0 Mo (frzFp bs fp) (frz bs ρ) p σ H
  | [], _, _, s => s
  | j :: bs, _, _, s => SRep.frz bs (s.frz1 j)
theorem frzFp_mem : ∀ (bs : List Nat) {fp : Nat → List Addr} {i : Nat} {a : Addr}, a ∈ frzFp bs fp i → i ∉ bs ∧ a ∈ fp i
  | [], _, _, _, h => ⟨by simp, h⟩
  | j :: bs, fp, i, a, h => by
    obtain ⟨h1, h2⟩ := frzFp_mem bs h
    by_cases e : i = j
    · rw [if_pos e] at h2
      cases h2
    · rw [if_neg e] at h2
      exact ⟨fun q => (List.mem_cons.mp q).elim e h1, h2⟩
theorem frz_hd {bs : List Nat} {a : Addr} (h : Hd Mo (frzFp bs fp) [] a) : Hd Mo fp bs a := by
  rcases h with h | ⟨i, _, h⟩
  · exact .inl h
  · obtain ⟨h1, h2⟩ := frzFp_mem bs h
    exact .inr ⟨i, h1, h2⟩
theorem PenRep.more (x : PenRep T Mo p H) (k : ∀ a, Mo a → Mo' a) (k2 : ∀ c q, H c = some (LamX.CodeO c q) → Mo' c → Mo c) : PenRep T Mo' p H := by
  refine ⟨?_, fun a q h => ⟨k a (x.tab a q h).1, (x.tab a q h).2.mo k2⟩⟩
  have x := x.pen
  unfold Pen0 at x ⊢
  cases hW : T.W with
  | none =>
    rw [hW] at x
    cases p with
    | none => trivial
    | some q => exact x.elim
  | some a =>
    rw [hW] at x
    cases p with
    | none => exact x.elim
    | some q =>
      obtain ⟨h1, h2, h3, h4, h5⟩ := x
      exact ⟨h1, h2, k _ h3, k _ h4, h5⟩
/-- new lists are hidden too -/
abbrev MoU (Mo : Addr → Prop) (as : List Addr) : Addr → Prop := fun a => Mo a ∨ a ∈ as
/-- hidden by less -/
theorem PenRep.less (x : PenRep T Mo' p' H') (y : PenRep T Mo p H) (k : ∀ a, Mo a → Mo' a) : PenRep T Mo p' H' := by
  refine ⟨?_, fun a q h => ⟨(y.tab a q h).1, (x.tab a q h).2.mo fun c _ _ => k c⟩⟩
  have x := x.pen
  have y := y.pen
  unfold Pen0 at x y ⊢
  cases hW : T.W with
  | none =>
    rw [hW] at x
    cases p' with
    | none => trivial
    | some q => exact x.elim
  | some a =>
    rw [hW] at x y
    cases p' with
    | none => exact x.elim
    | some q =>
      cases p with
      | none => exact y.elim
      | some q' => exact ⟨x.1, x.2.1, y.2.2.1, y.2.2.2.1, x.2.2.2.2⟩
theorem code_ld {c : Addr} {q : Str} : ¬ isLD (LamX.CodeO c q) := by
  unfold LamX.CodeO
  exact id
theorem SRep.hide (s : SRep T H0 Mo fp ρ p σ H) (g : Gr T H H') (x : PenRep T Mo p' H') (nw : ∀ a ∈ as, H a = none) (th : ∀ a ∈ as, ∃ o, H' a = some o ∧ isLD o) : SRep T H0 (MoU Mo as) fp ρ p' σ H' := by
  have s' := s.grows g x
  refine ⟨s.len, x.more (fun a h => .inl h) (fun c q e h => h.elim id fun h => ?_), fun a h => ?_, s'.grow, s.pb, ?_, fun i a h => ⟨(s.fresh i a h).1, fun q => ?_⟩, s.nod, s.dis, fun i c e => ?_, s.none_⟩
  · obtain ⟨o, e1, e2⟩ := th c h
    rw [e] at e1
    cases e1
    exact (code_ld e2).elim
  · rcases h with h | h
    · exact s'.mo a h
    · obtain ⟨o, e1, _⟩ := th a h
      rw [e1]
      exact fun q => nomatch q
  · refine ⟨fun a o e => ?_, s.cap.z, s.cap.f⟩
    obtain ⟨k1, k2⟩ := hid_some (s.cap.c a o e)
    rw [hid_out]
    · exact k1
    · intro q
      rcases q with q | q
      · exact k2 q
      · have := s.grow a o k1
        rw [nw a q] at this
        cases this
  · rcases q with q | q
    · exact (s.fresh i a h).2 q
    · exact s.there h (nw a q)
  · obtain ⟨v, e1, r⟩ := s.cell i c e
    refine ⟨v, e1, r.step (hid_step (fun b o e n => g b o e fun w => n (s.penHd w)) fun b q => ?_) _ fun a ha o ho => g a o ho fun w => (s.fresh i a ha).2 (s.pen.mo w).1⟩
    rcases q with (q | q) | ⟨k, h1, h2⟩
    · exact .inl (.inl q)
    · exact .inr (nw b q)
    · exact .inl (.inr ⟨k, h1, h2⟩)
/-- a slot gets a tree that owns as -/
theorem SRep.put {i : Nat} {d : D} {f : Nat} (s : SRep T H0 (MoU Mo as) fp ρ p σ H) (hp : PenRep T Mo p H) (hi : i < ρ.length) (own : OwnR T (hid (Hd (MoU Mo as) fp []) H) H f d v as) (nd : as.Nodup) (nw : ∀ a ∈ as, H0 a = none ∧ ¬ Mo a) :
    SRep T H0 Mo (fun j => if j = i then as else fp j) (ρ.set i (some ⟨d, f⟩)) p (σ.set i (some v)) H := by
  have up : Sub (hid (Hd (MoU Mo as) fp []) H) (hid (Hd Mo (fun j => if j = i then as else fp j) []) H) := hid_mono fun a q => by
    rcases q with q | ⟨k, _, q⟩
    · exact .inl (.inl (.inl q))
    · dsimp only at q
      by_cases e : k = i
      · rw [if_pos e] at q
        exact .inl (.inl (.inr q))
      · rw [if_neg e] at q
        exact .inl (.inr ⟨k, by simp, q⟩)
  refine ⟨by rw [List.length_set, List.length_set]; exact s.len, hp, fun a h => s.mo a (.inl h), s.grow, s.pb, ⟨s.cap.c.trans (hid_mono fun a h => .inl (.inl h)), s.cap.z, s.cap.f⟩, fun k a h => ?_, fun k => ?_, fun k l a h h' => ?_, fun k c e => ?_, fun k h => ?_⟩
  · by_cases e : k = i
    · rw [if_pos e] at h
      exact nw a h
    · rw [if_neg e] at h
      exact ⟨(s.fresh k a h).1, fun q => (s.fresh k a h).2 (.inl q)⟩
  · show (if k = i then as else fp k).Nodup
    by_cases e : k = i
    · rw [if_pos e]
      exact nd
    · rw [if_neg e]
      exact s.nod k
  · by_cases e : k = i
    · by_cases e' : l = i
      · rw [e, e']
      · rw [if_pos e] at h
        rw [if_neg e'] at h'
        exact absurd (.inr h) (s.fresh l a h').2
    · by_cases e' : l = i
      · rw [if_neg e] at h
        rw [if_pos e'] at h'
        exact absurd (.inr h') (s.fresh k a h).2
      · rw [if_neg e] at h
        rw [if_neg e'] at h'
        exact s.dis k l a h h'
  · by_cases hk : k = i
    · subst hk
      rw [List.getElem?_set_self hi] at e
      cases e
      refine ⟨v, List.getElem?_set_self (by rw [← s.len]; exact hi), ?_⟩
      show OwnR T _ H f d v (if k = k then as else fp k)
      rw [if_pos rfl]
      exact own.step up _ fun a _ o ho => ho
    · rw [List.getElem?_set_ne (fun z => hk z.symm)] at e
      obtain ⟨w, e1, r⟩ := s.cell k c e
      refine ⟨w, by rw [List.getElem?_set_ne (fun z => hk z.symm)]; exact e1, ?_⟩
      show OwnR T _ H c.o c.d w (if k = i then as else fp k)
      rw [if_neg hk]
      exact r.step up _ fun a _ o ho => ho
  · show (if k = i then as else fp k) = []
    by_cases hk : k = i
    · subst hk
      exact absurd (List.getElem?_set_self hi) (h _)
    · rw [if_neg hk]
      refine s.none_ k fun c e => h c ?_
      rw [List.getElem?_set_ne (fun z => hk z.symm)]
      exact e
theorem moU_nil : MoU Mo [] = Mo := funext fun a => propext ⟨fun h => h.elim id fun q => absurd q (by simp), .inl⟩
/-- what is to be frozen where a result is stored -/
def lf1 : D → Bool
  | .lst ds => lfs ds
  | .dic _ es => lfs es
  | d => lf d
def fr0 (b : List Nat) (k : Bool) : List Nat := match b with | [] => [] | b => if k = true then [] else b
theorem fr0_eq (b : List Nat) (k : Bool) : fr0 b k = if k = true then [] else b := by
  unfold fr0
  cases b with
  | nil => cases k <;> rfl
  | cons _ _ => rfl
def Z.fr (z : Z) : List Nat := if z.f = 0 then fr0 (z.b ++ z.c) (lf z.d) else if z.f = 1 then fr0 z.c (lf1 z.d) else z.c
def asgN (i : Nat) (z : Z) (ρ : Env) : Env := (frz z.fr ρ).set i (some ⟨z.d, z.f⟩)
theorem ld_k (ld : ∀ i a, a ∈ fp i → ∃ o, H a = some o ∧ isLD o) {b b' : List Nat} {M : Addr → Prop} : ∀ a o, H a = some o → (Hd Mo fp b a ∨ M a) → ¬ (Hd Mo fp b' a ∨ M a) → isLD o := fun a o e h n => by
  rcases h with (h | ⟨i, _, h⟩) | h
  · exact absurd (.inl (.inl h)) n
  · obtain ⟨o', e', l⟩ := ld i a h
    rw [e] at e'
    cases e'
    exact l
  · exact absurd (.inr h) n
theorem OwnRs.lf0 {F : Hp} (G : Hp) {ds : List D} {vs : List V} {as : List Addr} (h : OwnRs (OwnR T F H 0) ds vs as) (k : Rps T F ds vs → Rps T G ds vs) : OwnRs (OwnR T G H 0) ds vs as := by
  have r : Rps T F ds vs := h.rps fun d v bs _ q => q.2
  have n : ∀ {ds : List D} {vs : List V} {as : List Addr}, OwnRs (OwnR T F H 0) ds vs as → as = [] := by
    intro ds
    induction ds with
    | nil => exact fun h => h.2
    | cons d ds ih =>
      intro vs as h
      obtain ⟨v, r, a1, a2, h1, h2, h3, h4⟩ := h
      rw [h2, h3.1, ih h4] <;> rfl
  rw [n h]
  exact .of0 (k r)
/-- keys that are no tuples lie in every heap -/
theorem Rps.keys {F G : Hp} : ∀ {ks : List D} {kvs : List (Key × V)}, Rps T F ks (kvs.map fun kv => kV kv.1) → Rps T G ks (kvs.map fun kv => kV kv.1)
  | [], _, h => h
  | d :: ds, [], h => by
    obtain ⟨v, r, h1, _⟩ := h
    cases h1
  | d :: ds, kv :: kvs, h => by
    obtain ⟨v, r, h1, h2, h3⟩ := h
    obtain ⟨rfl, rfl⟩ := List.cons.inj h1
    refine ⟨_, _, rfl, ?_, Rps.keys h3⟩
    obtain ⟨k, w⟩ := kv
    cases k with
    | inl i => cases d <;> first | exact h2 | (obtain ⟨_, _, h2, _⟩ := h2; cases h2; done) | (obtain ⟨_, h2, _⟩ := h2; cases h2; done) | (obtain ⟨_, _, _, h2, _⟩ := h2; cases h2; done)
    | inr i => cases d <;> first | exact h2 | (obtain ⟨_, _, h2, _⟩ := h2; cases h2; done) | (obtain ⟨_, h2, _⟩ := h2; cases h2; done) | (obtain ⟨_, _, _, h2, _⟩ := h2; cases h2; done)
/-- a result as an owner of new lists: with all that is frozen for it -/
theorem ZRep.ownR (x : ZRep T Mo fp Hs z v H) (ld : ∀ i a, a ∈ fp i → ∃ o, H a = some o ∧ isLD o) : ∃ as, OwnR T (hid (fun a => Hd Mo fp z.fr a ∨ a ∈ as) H) H z.f z.d v as ∧ as.Nodup ∧ ∀ a ∈ as, Hs a = none := by
  by_cases q : z.f = 0
  · refine ⟨[], ?_, List.nodup_nil, fun a h => absurd h (by simp)⟩
    rw [q]
    refine ⟨rfl, ?_⟩
    have r := x.all (b := z.b ++ z.c) fun i hi => hi
    have e : z.fr = if lf z.d = true then [] else z.b ++ z.c := by
      unfold Z.fr
      rw [if_pos q, fr0_eq]
    rw [e]
    by_cases l : lf z.d = true
    · rw [if_pos l]
      exact Rp.lf (fun a o e h n => ld_k (M := fun a => a ∈ ([] : List Addr)) ld a o e h fun z => n (z.elim id fun q => absurd q (by simp))) z.d l r
    · rw [if_neg l]
      exact Rp.sub (hid_mono fun a h => .inl (h.elim id fun q => absurd q (by simp))) z.d r
  · obtain ⟨as, h1, h2, h3⟩ := x.own q
    by_cases q1 : z.f = 1
    · have e : z.fr = if lf1 z.d = true then [] else z.c := by
        unfold Z.fr
        rw [if_neg q, if_pos q1, fr0_eq]
      rw [e]
      by_cases l : lf1 z.d = true
      · rw [if_pos l]
        refine ⟨as, ?_, h2, h3⟩
        rw [q1] at h1 ⊢
        have kk : ∀ a o, H a = some o → (Hd Mo fp [] a ∨ a ∈ as) → ¬ (Hd Mo fp z.c a ∨ a ∈ as) → isLD o := fun a o => ld_k (M := fun a => a ∈ as) ld a o
        cases hd : z.d with
        | lst ds =>
          rw [hd] at h1 l
          obtain ⟨a, vs, bs, k1, k2, k3, k4⟩ := h1
          exact ⟨a, vs, bs, k1, k2, k3, k4.lf0 _ (Rps.lf kk _ l)⟩
        | dic ks es =>
          rw [hd] at h1 l
          obtain ⟨a, kvs, bs, k1, k2, k3, k4, k5⟩ := h1
          refine ⟨a, kvs, bs, k1, k2, k3, ?_, k5.lf0 _ (Rps.lf kk _ l)⟩
          exact Rps.keys k4
        | non => rw [hd] at h1; exact ⟨h1.1, Rp.lf kk _ rfl h1.2⟩
        | bl b => rw [hd] at h1; exact ⟨h1.1, Rp.lf kk _ rfl h1.2⟩
        | int i => rw [hd] at h1; exact ⟨h1.1, Rp.lf kk _ rfl h1.2⟩
        | str x => rw [hd] at h1; exact ⟨h1.1, Rp.lf kk _ rfl h1.2⟩
        | tup xs => rw [hd] at h1 l; exact ⟨h1.1, Rp.lf kk _ l h1.2⟩
        | obj c fs => rw [hd] at h1 l; exact ⟨h1.1, Rp.lf kk _ l h1.2⟩
        | fn n => rw [hd] at h1; exact ⟨h1.1, Rp.lf kk _ rfl h1.2⟩
        | ty n => rw [hd] at h1; exact ⟨h1.1, Rp.lf kk _ rfl h1.2⟩
        | clo n => rw [hd] at l; cases l
        | pen => rw [hd] at h1; exact ⟨h1.1, Rp.lf kk _ rfl h1.2⟩
      · rw [if_neg l]
        exact ⟨as, h1, h2, h3⟩
    · have e : z.fr = z.c := by
        unfold Z.fr
        rw [if_neg q, if_neg q1]
      rw [e]
      exact ⟨as, h1, h2, h3⟩
theorem SRep.asg (s : SRep T H0 Mo fp ρ p σ H) (g : Gr T H H') (x : PenRep T Mo p' H') (zr : ZRep T Mo fp H z v H') {i : Nat} (hi : i < ρ.length) : ∃ fp', SRep T H0 Mo fp' (asgN i z ρ) p' (σ.set i (some v)) H' := by
  obtain ⟨as, h1, h2, h3⟩ := zr.ownR (s.grows g x).ld
  have s1 := (s.hide g x h3 fun a ha => h1.ld _ a ha).frz z.fr
  have nw : ∀ a ∈ as, H0 a = none ∧ ¬ Mo a := fun a ha => by
    refine ⟨?_, fun q => s.mo a q (h3 a ha)⟩
    cases e : H0 a with
    | none => rfl
    | some o =>
      have := s.grow a o e
      rw [h3 a ha] at this
      cases this
  exact ⟨_, s1.put x (by rw [frz_len]; exact hi) (h1.step (hid_mono fun a q => by
    rcases q with (q | q) | ⟨k, _, q⟩
    · exact .inl (.inl (.inl q))
    · exact .inl (.inr q)
    · obtain ⟨k1, k2⟩ := frzFp_mem _ q
      exact .inl (.inl (.inr ⟨k, k1, k2⟩))) _ fun a _ o ho => ho) h2 nw⟩
end

/-! ### outcomes of statements -/
inductive O where
  | nx (ρ : Env) (p : Option Pen)
  | ret (z : Z) (p : Option Pen)
  | brk (ρ : Env) (p : Option Pen)
  | cnt (ρ : Env) (p : Option Pen)
  | exc (c : Nat) (fs : List D) (p : Option Pen)
  | bad
abbrev SM := Env → Option Pen → O
/-- what is handed back: all of it may be read; its new lists are the caller's -/
structure RRep (T : Tx) (H0 : Hp) (Mo : Addr → Prop) (z : Z) (p : Option Pen) (v : V) (H : Hp) : Prop where
  grow : Sub H0 H
  pen : PenRep T Mo p H
  mo : ∀ a, Mo a → H a ≠ none
  own : ∃ as, OwnR T (hid (MoU Mo as) H) H z.f z.d v as ∧ as.Nodup ∧ ∀ a ∈ as, H0 a = none ∧ ¬ Mo a
def SPost (T : Tx) (Wx : WX) (H0 : Hp) (Mo : Addr → Prop) (r : O) (D : Ends) : Prop :=
  match r with
  | .nx ρ p => ∀ fp σ H, SRep T H0 Mo fp ρ p σ H → D.nx σ H
  | .ret z p => ∀ v H, RRep T H0 Mo z p v H → D.rt v H
  | .brk ρ p => ∀ fp σ H, SRep T H0 Mo fp ρ p σ H → D.bk σ H
  | .cnt ρ p => ∀ fp σ H, SRep T H0 Mo fp ρ p σ H → D.ct σ H
  | .exc c fs p => XPost T Wx H0 Mo c fs p
  | .bad => False
def upS (T : Tx) (Wx : WX) (m : SM) : TS := fun D σ H => ∃ H0 Mo fp ρ p, SRep T H0 Mo fp ρ p σ H ∧ SPost T Wx H0 Mo (m ρ p) D
abbrev DS (X : Cx) (T : Tx) (Wx : WX) (st : Stmt) (m : SM) : Prop := PS X st (upS T Wx m)
abbrev DSs (X : Cx) (T : Tx) (Wx : WX) (st : List Stmt) (m : SM) : Prop := PSs X st (upS T Wx m)

def R.thenO {α : Type} (r : R α) (k : α → Option Pen → O) : O :=
  match r with
  | .ok a p => k a p
  | .exc c fs p => .exc c fs p
  | .bad => .bad
theorem SPost.bind {T : Tx} {Wx : WX} {H0 : Hp} {Mo : Addr → Prop} {fp : Nat → List Addr} {Hs H : Hp} {r : R Z} {k : Z → Option Pen → O} {D : Ends} (h : SPost T Wx H0 Mo (r.thenO k) D) : EPost T Wx H0 Mo fp Hs H r fun x p1 _ _ => SPost T Wx H0 Mo (k x p1) D := by
  cases r with
  | ok z p => exact fun v H1 g x zr => h
  | exc c fs p => exact h
  | bad => exact h.elim

def sPass : SM := fun ρ p => .nx ρ p
def sBrk : SM := fun ρ p => .brk ρ p
def sCnt : SM := fun ρ p => .cnt ρ p
def sSeq (a b : SM) : SM := fun ρ p => match a ρ p with | .nx ρ1 p1 => b ρ1 p1 | o => o
def sAsg (i : Nat) (f : M Z) : SM := fun ρ p => (f ρ p).thenO fun z p1 => if i < ρ.length then .nx (asgN i z ρ) p1 else .bad
def sDrop (f : M Z) : SM := fun ρ p => (f ρ p).thenO fun _ p1 => .nx ρ p1
def sIf (c : M Z) (a b : SM) : SM := fun ρ p => (c ρ p).thenO fun z p1 => match truth z.d with | some true => a ρ p1 | some false => b ρ p1 | none => .bad
def sRet (f : M Z) : SM := fun ρ p => (f ρ p).thenO fun z p1 => .ret ⟨z.d, [], [], z.f⟩ p1
/-- return of a name: what the slot owns goes to the caller -/
def sRetV (i : Nat) : SM := fun ρ p => match ρ[i]? with | some (some c) => .ret ⟨c.d, [], [], c.o⟩ p | _ => .bad
def sRetN : SM := fun _ p => .ret (zS .non) p
section
variable {X : Cx} {T : Tx} {Wx : WX} {pos : Pos} {e : Expr} {f c : M Z} {st : Stmt} {rest : List Stmt} {m n : SM}
theorem ds_nil : DSs X T Wx [] sPass := pss_nil.mono fun D σ H h => by
  obtain ⟨H0, Mo, fp, ρ, p, s, h⟩ := h
  exact h _ _ _ s
theorem ds_pass : DS X T Wx (.Pass pos) sPass := ps_pass.mono fun D σ H h => by
  obtain ⟨H0, Mo, fp, ρ, p, s, h⟩ := h
  exact h _ _ _ s
theorem ds_brk : DS X T Wx (.Break pos) sBrk := ps_break.mono fun D σ H h => by
  obtain ⟨H0, Mo, fp, ρ, p, s, h⟩ := h
  exact h _ _ _ s
theorem ds_cnt : DS X T Wx (.Continue pos) sCnt := ps_continue.mono fun D σ H h => by
  obtain ⟨H0, Mo, fp, ρ, p, s, h⟩ := h
  exact h _ _ _ s
theorem ds_doc {x j pos'} : DS X T Wx (.Expr (.Constant (.str x) j pos) pos') sPass := ps_doc.mono fun D σ H h => by
  obtain ⟨H0, Mo, fp, ρ, p, s, h⟩ := h
  exact h _ _ _ s
theorem up_seq {D : Ends} {σ : L2.St} {H : Hp} (h : upS T Wx (sSeq m n) D σ H) : tSeq (upS T Wx m) (upS T Wx n) D σ H := by
  obtain ⟨H0, Mo, fp, ρ, p, s, h⟩ := h
  refine ⟨H0, Mo, fp, ρ, p, s, ?_⟩
  unfold sSeq at h
  cases e : m ρ p with
  | nx ρ1 p1 =>
    rw [e] at h
    exact fun fp' σ' H' s' => ⟨H0, Mo, fp', ρ1, p1, s', h⟩
  | ret z p1 =>
    rw [e] at h
    exact h
  | brk ρ1 p1 =>
    rw [e] at h
    exact h
  | cnt ρ1 p1 =>
    rw [e] at h
    exact h
  | exc c fs p1 =>
    rw [e] at h
    exact h
  | bad =>
    rw [e] at h
    exact h
theorem ds_cons (h1 : DS X T Wx st m) (h2 : DSs X T Wx rest n) : DSs X T Wx (st :: rest) (sSeq m n) := (pss_cons h1 h2).mono fun _ _ _ h => up_seq h
theorem ds_one (h1 : DS X T Wx st m) : DSs X T Wx [st] m := pss_one h1
theorem up_asg {i : Nat} {D : Ends} {σ : L2.St} {H : Hp} (h : upS T Wx (sAsg i f) D σ H) : tAsg (upE T Wx f) (gName i) D σ H := by
  obtain ⟨H0, Mo, fp, ρ, p, s, h⟩ := h
  refine ⟨H0, Mo, fp, ρ, p, s, (SPost.bind (Hs := H) (H := H) h).imp fun z p1 v H1 _ g x zr h => ?_⟩
  by_cases hi : i < ρ.length
  · rw [if_pos hi] at h
    obtain ⟨fp', s'⟩ := s.asg g x zr hi
    exact h _ _ _ s'
  · rw [if_neg hi] at h
    exact h.elim
theorem ds_asg {i : Nat} {x : Str} {pos' : Pos} (hN : X.N.Nodup) (hi : X.N[i]? = some x) (hx : Loc X.env.scope x) (he : DE X T Wx e f) (hs : swapsWith e (some (.Name x pos')) pos.line X.env = pure false := by rfl)
    (hf : X.fn x = true ∨ X.env.scope.names.lookup x = some .local := by first | exact .inl rfl | exact .inr rfl | assumption) : DS X T Wx (.Assign [.Name x pos'] e pos) (sAsg i f) :=
  (ps_set hN hi hx he hs hf).mono fun _ _ _ h => up_asg h
theorem ds_drop (he : DE X T Wx e f) (hs : swapsWith e none pos.line X.env = pure false := by rfl) : DS X T Wx (.Expr e pos) (sDrop f) := (ps_expr he hs).mono fun D σ H h => by
  obtain ⟨H0, Mo, fp, ρ, p, s, h⟩ := h
  exact ⟨H0, Mo, fp, ρ, p, s, (SPost.bind (Hs := H) (H := H) h).imp fun z p1 v H1 _ g x zr h => h _ _ _ (s.grows g x)⟩
theorem ds_if {a b : List Stmt} (hc : DT X T Wx e c) (ha : DSs X T Wx a m) (hb : DSs X T Wx b n) : DS X T Wx (.If e a b pos) (sIf c m n) := (ps_if hc ha hb).mono fun D σ H h => by
  obtain ⟨H0, Mo, fp, ρ, p, s, h⟩ := h
  refine ⟨H0, Mo, fp, ρ, p, s, (SPost.bind (Hs := H) (H := H) h).imp fun z p1 v H1 _ g x zr h => ?_⟩
  cases e : truth z.d with
  | none =>
    rw [e] at h
    exact h.elim
  | some b =>
    rw [e] at h
    refine ⟨b, rfl, ?_⟩
    cases b with
    | true =>
      rw [if_pos rfl]
      exact ⟨H0, Mo, fp, ρ, p1, s.grows g x, h⟩
    | false =>
      rw [if_neg Bool.false_ne_true]
      exact ⟨H0, Mo, fp, ρ, p1, s.grows g x, h⟩
theorem SRep.out {T : Tx} {H0 H : Hp} {Mo : Addr → Prop} {fp : Nat → List Addr} {ρ : Env} {p : Option Pen} {σ : L2.St} (s : SRep T H0 Mo fp ρ p σ H) {a : Addr} (h : H a = none) : H0 a = none ∧ ¬ Mo a := by
  refine ⟨?_, fun q => s.mo a q h⟩
  cases e : H0 a with
  | none => rfl
  | some o =>
    have := s.grow a o e
    rw [h] at this
    cases this
theorem ds_ret (he : DE X T Wx e f) : DS X T Wx (.Return (some e) pos) (sRet f) := (ps_ret he).mono fun D σ H h => by
  obtain ⟨H0, Mo, fp, ρ, p, s, h⟩ := h
  refine ⟨H0, Mo, fp, ρ, p, s, (SPost.bind (Hs := H) (H := H) h).imp fun z p1 v H1 _ g x zr h => ?_⟩
  have s1 := s.grows g x
  obtain ⟨as, h1, h2, h3⟩ := zr.ownR s1.ld
  refine h _ _ ⟨s1.grow, x, s1.mo, as, h1.step (hid_mono fun a q => ?_) _ fun a _ o ho => ho, h2, fun a ha => s.out (h3 a ha)⟩
  rcases q with q | q
  · exact .inl (.inl (.inl q))
  · exact .inl (.inr q)
theorem ds_retN : DS X T Wx (.Return none pos) sRetN := ps_retN.mono fun D σ H h => by
  obtain ⟨H0, Mo, fp, ρ, p, s, h⟩ := h
  exact h _ _ ⟨s.grow, s.pen, s.mo, [], ⟨rfl, rfl⟩, List.nodup_nil, fun a ha => absurd ha (by simp)⟩
theorem ds_retV {i : Nat} {x : Str} {pos' : Pos} (hN : X.N[i]? = some x := by rfl) (hv : Vis X.env.scope x := by first | exact Or.inl rfl | exact Or.inr (Or.inl rfl) | exact Or.inr (Or.inr rfl)) (hd : (x == ("__debug__" : Str)) = false := by decide)
    (hcd : (x == ("__classdict__" : Str)) = false := by decide) : DS X T Wx (.Return (some (.Name x pos')) pos) (sRetV i) := (ps_ret (pe_var (i := i) hN hv hd hcd)).mono fun D σ H h => by
  obtain ⟨H0, Mo, fp, ρ, p, s, h⟩ := h
  unfold sRetV at h
  split at h
  · rename_i c e
    obtain ⟨v, e1, r⟩ := s.cell i c e
    refine ⟨v, e1, h _ _ ⟨s.grow, s.pen, s.mo, fp i, r.step (hid_mono fun a q => ?_) _ fun a _ o ho => ho, s.nod i, fun a ha => s.fresh i a ha⟩⟩
    rcases q with q | q
    · exact .inl (.inl q)
    · exact .inl (.inr ⟨i, by simp, q⟩)
  · exact h.elim
end
end DL
set_option Elab.async false
set_option linter.all false
set_option maxRecDepth 100000
set_option maxHeartbeats 2000000
/-! # The data layer, part 6: targets, things to go through, loops -/
namespace DL
open PySem PySem.Spec PyProof.Rows L2

theorem _root_.L2.PG.mono {X : Cx} {e : Expr} {t t' : TG} (h : PG X e t) (k : ∀ v σ H Q, t' v σ H Q → t v σ H Q) : PG X e t' := ⟨fun pins s σ H v u Q I r q => h.run pins s σ H v u Q I r (k v σ H Q q)⟩
theorem _root_.L2.PGs.mono {X : Cx} {e : List Expr} {t t' : TGs} (h : PGs X e t) (k : ∀ v σ H Q, t' v σ H Q → t v σ H Q) : PGs X e t' := ⟨fun pins s σ H v u Q I r q => h.run pins s σ H v u Q I r (k v σ H Q q)⟩
theorem _root_.L2.PI.mono {X : Cx} {tg e : Expr} {t t' : TI} (h : PI X tg e t) (k : ∀ σ H Q, t' σ H Q → t σ H Q) : PI X tg e t' := ⟨fun pins s σ H R I q => h.run pins s σ H R I (k σ H R q)⟩

/-! ### targets of frozen things -/
abbrev TM := D → Env → Option Env
def upG (T : Tx) (js : List Nat) (tm : TM) : TG := fun v σ H Q => ∃ H0 Mo fp ρ p d ρ', SRep T H0 Mo fp ρ p σ H ∧ Rp T (hid (Hd Mo fp []) H) d v ∧ tm d ρ = some ρ' ∧ ∀ fp' σ', SRep T H0 Mo fp' ρ' p σ' H → (∀ i a, a ∈ fp' i → a ∈ fp i) → σ'.length = σ.length → (∀ j, j ∉ js → fp' j = fp j ∧ σ'[j]? = σ[j]?) → Q σ' H
abbrev DG (X : Cx) (T : Tx) (tg : Expr) (js : List Nat) (tm : TM) : Prop := PG X tg (upG T js tm)
abbrev TMs := List D → Env → Option Env
def upGs (T : Tx) (js : List Nat) (tm : TMs) : TGs := fun vs σ H Q => ∃ H0 Mo fp ρ p ds ρ', SRep T H0 Mo fp ρ p σ H ∧ Rps T (hid (Hd Mo fp []) H) ds vs ∧ tm ds ρ = some ρ' ∧ ∀ fp' σ', SRep T H0 Mo fp' ρ' p σ' H → (∀ i a, a ∈ fp' i → a ∈ fp i) → σ'.length = σ.length → (∀ j, j ∉ js → fp' j = fp j ∧ σ'[j]? = σ[j]?) → Q σ' H
abbrev DGs (X : Cx) (T : Tx) (ts : List Expr) (js : List Nat) (tm : TMs) : Prop := PGs X ts (upGs T js tm)
def tmN (i : Nat) : TM := fun d ρ => if i < ρ.length then some (ρ.set i (some ⟨d, 0⟩)) else none
def tmNil : TMs := fun ds ρ => match ds with | [] => some ρ | _ => none
def tmCons (t : TM) (u : TMs) : TMs := fun ds ρ => match ds with | d :: r => (t d ρ).bind (u r) | [] => none
def tmT (n : Nat) (t : TMs) : TM := fun d ρ => match d with | .tup ds => if ds.length = n then t ds ρ else none | _ => none
def tmL (n : Nat) (t : TMs) : TM := fun d ρ => match d with | .lst ds => if ds.length = n then t ds ρ else none | _ => none
theorem hd_le {Mo : Addr → Prop} {fp fp' : Nat → List Addr} (h : ∀ i a, a ∈ fp' i → a ∈ fp i) {H : Hp} : Sub (hid (Hd Mo fp []) H) (hid (Hd Mo fp' []) H) := hid_mono fun a q => by
  rcases q with q | ⟨i, h1, q⟩
  · exact .inl (.inl q)
  · exact .inl (.inr ⟨i, h1, h i a q⟩)
section
variable {T : Tx} {H0 H H' Hs : Hp} {Mo Mo' : Addr → Prop} {fp : Nat → List Addr} {ρ : Env} {p p' : Option Pen} {σ : L2.St} {v : V} {d : D}
theorem SRep.put0 (s : SRep T H0 Mo fp ρ p σ H) {i : Nat} (hi : i < ρ.length) (r : Rp T (hid (Hd Mo fp []) H) d v) : SRep T H0 Mo (fun j => if j = i then [] else fp j) (ρ.set i (some ⟨d, 0⟩)) p (σ.set i (some v)) H := by
  have s' : SRep T H0 (MoU Mo []) fp ρ p σ H := by
    rw [moU_nil]
    exact s
  exact SRep.put (as := []) (f := 0) s' s.pen hi ⟨rfl, by rw [moU_nil]; exact r⟩ List.nodup_nil fun a h => absurd h (by simp)
end
section
variable {X : Cx} {T : Tx} {Wx : WX} {pos : Pos}
theorem dg_name {i : Nat} {x : Str} (hN : X.N.Nodup) (hi : X.N[i]? = some x) (hx : Loc X.env.scope x) (hf : X.fn x = true ∨ X.env.scope.names.lookup x = some .local := by first | exact .inl rfl | exact .inr rfl | assumption) : DG X T (.Name x pos) [i] (tmN i) :=
  (pg_name hN hi hx hf).mono fun v σ H Q h => by
    obtain ⟨H0, Mo, fp, ρ, p, d, ρ', s, r, e, q⟩ := h
    unfold tmN at e
    split at e
    · rename_i hi
      cases e
      refine q _ _ (s.put0 hi r) (fun j a h => ?_) (List.length_set ..) fun j hj => ⟨if_neg fun e => hj (by rw [e]; exact List.mem_singleton.mpr rfl), List.getElem?_set_ne fun e => hj (by rw [e]; exact List.mem_singleton.mpr rfl)⟩
      by_cases z : j = i
      · rw [if_pos z] at h
        cases h
      · rw [if_neg z] at h
        exact h
    · cases e
theorem dgs_nil : DGs X T [] [] tmNil := pgs_nil.mono fun v σ H Q h => by
  obtain ⟨H0, Mo, fp, ρ, p, d, ρ', s, r, e, q⟩ := h
  cases d with
  | nil =>
    have e' : ρ = ρ' := by simpa [tmNil] using e
    subst e'
    exact ⟨r, q _ _ s (fun _ _ h => h) rfl fun _ _ => ⟨rfl, rfl⟩⟩
  | cons d ds => cases e
theorem dgs_cons {e : Expr} {es : List Expr} {t : TM} {u : TMs} {js ks : List Nat} (h1 : DG X T e js t) (h2 : DGs X T es ks u) (hs : (assignEach (e :: es) X.env).map (·.2) = assign e X.env :: (assignEach es X.env).map (·.2) := by rfl) : DGs X T (e :: es) (js ++ ks) (tmCons t u) :=
  (pgs_cons h1 h2 hs).mono fun v σ H Q h => by
    obtain ⟨H0, Mo, fp, ρ, p, d, ρ', s, r, e, q⟩ := h
    cases d with
    | nil => cases e
    | cons d ds =>
      obtain ⟨v, vs, e1, r1, r2⟩ := r
      have e : (t d ρ).bind (u ds) = some ρ' := e
      cases et : t d ρ with
      | none =>
        rw [et] at e
        cases e
      | some ρ1 =>
        rw [et] at e
        exact ⟨v, vs, e1, H0, Mo, fp, ρ, p, d, ρ1, s, r1, et, fun fp' σ' s' k l1 u1 => ⟨H0, Mo, fp', ρ1, p, ds, ρ', s', Rps.sub (hd_le k) ds r2, e, fun fp2 σ2 s2 k2 l2 u2 => q _ _ s2 (fun i a h => k i a (k2 i a h)) (l2.trans l1) fun j hj => ⟨(u2 j fun z => hj (List.mem_append_right _ z)).1.trans (u1 j fun z => hj (List.mem_append_left _ z)).1, (u2 j fun z => hj (List.mem_append_right _ z)).2.trans (u1 j fun z => hj (List.mem_append_left _ z)).2⟩⟩⟩
theorem dg_tup {es : List Expr} {k : Nat} {t : TMs} {n : Nat} {js : List Nat} (hc : X.calm = true) (hK : T.K = X.K) (h : DGs X T es js t) (hn : (assignEach es X.env).length = n := by rfl) (hst : (assignEach es X.env).findIdx? (·.1) = none := by rfl) : DG X T (.Tuple es k pos) js (tmT n t) :=
  (pg_tup hc h hn hst).mono fun v σ H Q h => by
    obtain ⟨H0, Mo, fp, ρ, p, d, ρ', s, r, e, q⟩ := h
    unfold tmT at e
    split at e
    · rename_i ds
      split at e
      · rename_i hl
        obtain ⟨a, vs, e1, r1, r2⟩ := r
        rw [← hK]
        exact ⟨a, vs, e1, hid_sub.sqt r1, by rw [← r2.len, hl], H0, Mo, fp, ρ, p, ds, ρ', s, r2, e, q⟩
      · cases e
    · cases e
theorem dg_lst {es : List Expr} {k : Nat} {t : TMs} {n : Nat} {js : List Nat} (hc : X.calm = true) (h : DGs X T es js t) (hn : (assignEach es X.env).length = n := by rfl) (hst : (assignEach es X.env).findIdx? (·.1) = none := by rfl) : DG X T (.Tuple es k pos) js (tmL n t) :=
  (pg_lst hc h hn hst).mono fun v σ H Q h => by
    obtain ⟨H0, Mo, fp, ρ, p, d, ρ', s, r, e, q⟩ := h
    unfold tmL at e
    split at e
    · rename_i ds
      split at e
      · rename_i hl
        obtain ⟨a, vs, e1, r1, r2⟩ := r
        exact ⟨a, vs, e1, .inl (.inl (hid_sub _ _ r1)), by rw [← r2.len, hl], H0, Mo, fp, ρ, p, ds, ρ', s, r2, e, q⟩
      · cases e
    · cases e
end

/-! ### things to go through -/
/-- what the slots do not own and is not the pen -/
noncomputable def bs (T : Tx) (fp : Nat → List Addr) (H : Hp) : Hp := hid (fun a => T.sp a ∨ ∃ i, a ∈ fp i) H
structure JOk (T : Tx) (B : Hp) (Mo : Addr → Prop) (J : It) (ds : List D) : Prop where
  go : ∀ i H, Sub B H → i < ds.length → J.go i H
  stop : ∀ i H, Sub B H → ds.length ≤ i → J.stop i H
  yld : ∀ i H x H', Sub B H → J.yld i H x H' → Sub H H' ∧ ∀ d, ds[i]? = some d → ∀ G, Sub (hid Mo B) G → (∀ a o, H a = none → H' a = some o → G a = some o) → Rp T G d x
def IPost (T : Tx) (Wx : WX) (H0 : Hp) (Mo : Addr → Prop) (fp : Nat → List Addr) (H : Hp) (r : R (List D × List Nat)) (Q : It → Hp → Prop) : Prop :=
  match r with
  | .ok x p => ∀ J H', Gr T H H' → PenRep T Mo p H' → JOk T (bs T (frzFp x.2 fp) H') Mo J x.1 → Q J H'
  | .exc c fs p => XPost T Wx H0 Mo c fs p
  | .bad => False
abbrev IM := M (List D × List Nat)
def upI (T : Tx) (Wx : WX) (m : IM) : TI := fun σ H Q => ∃ H0 Mo fp ρ p, SRep T H0 Mo fp ρ p σ H ∧ IPost T Wx H0 Mo fp H (m ρ p) Q
abbrev DI (X : Cx) (T : Tx) (Wx : WX) (tg it : Expr) (m : IM) : Prop := PI X tg it (upI T Wx m)
section
variable {T : Tx} {H0 H H' Hs : Hp} {Mo Mo' : Addr → Prop} {fp : Nat → List Addr} {ρ : Env} {p p' : Option Pen} {σ : L2.St} {v : V} {d : D}
theorem SRep.sub_bs (s : SRep T H0 Mo fp ρ p σ H) : Sub H0 (bs T fp H) := fun a o e => by
  unfold bs
  rw [hid_out]
  · exact s.grow a o e
  · intro q
    rcases q with q | ⟨i, q⟩
    · rw [s.pb a q] at e
      cases e
    · rw [(s.fresh i a q).1] at e
      cases e
/-- the base may grow by all that is not owned -/
theorem SRep.base (s : SRep T H0 Mo fp ρ p σ H) : SRep T (bs T fp H) Mo fp ρ p σ H :=
  ⟨s.len, s.pen, s.mo, hid_sub, fun a e => hid_in (.inl e), ⟨s.cap.c.trans (hid_step (fun a o e _ => s.sub_bs a o e) fun a h => .inl h), s.cap.z.trans s.sub_bs, s.cap.f⟩, fun i a h => ⟨hid_in (.inr ⟨i, h⟩), (s.fresh i a h).2⟩, s.nod, s.dis, s.cell, s.none_⟩
theorem SRep.unbase {B : Hp} (s : SRep T B Mo fp ρ p σ H) (h : Sub H0 B) (hc : Cap T Mo H0) : SRep T H0 Mo fp ρ p σ H := by
  have nn : ∀ a, B a = none → H0 a = none := fun a e => by
    cases e' : H0 a with
    | none => rfl
    | some o =>
      rw [h a o e'] at e
      cases e
  exact ⟨s.len, s.pen, s.mo, h.trans s.grow, fun a e => nn a (s.pb a e), hc, fun i a q => ⟨nn a (s.fresh i a q).1, (s.fresh i a q).2⟩, s.nod, s.dis, s.cell, s.none_⟩
theorem XPost.base {Wx : WX} {B : Hp} {c : Nat} {fs : List D} (x : XPost T Wx H0 Mo c fs p) (h : Sub H0 B) : XPost T Wx B Mo c fs p := fun σ H d vs e => x σ H d vs (h.trans e)
theorem RRep.unbase {B : Hp} {z : Z} (s : RRep T B Mo z p v H) (h : Sub H0 B) : RRep T H0 Mo z p v H := by
  have nn : ∀ a, B a = none → H0 a = none := fun a e => by
    cases e' : H0 a with
    | none => rfl
    | some o =>
      rw [h a o e'] at e
      cases e
  obtain ⟨as, h1, h2, h3⟩ := s.own
  exact ⟨h.trans s.grow, s.pen, s.mo, as, h1, h2, fun a ha => ⟨nn a (h3 a ha).1, (h3 a ha).2⟩⟩
theorem SPost.base {Wx : WX} {B : Hp} {r : O} {D : Ends} (x : SPost T Wx H0 Mo r D) (h : Sub H0 B) (hc : Cap T Mo H0) : SPost T Wx B Mo r D := by
  cases r with
  | nx ρ p => exact fun fp σ H s => x fp σ H (s.unbase h hc)
  | brk ρ p => exact fun fp σ H s => x fp σ H (s.unbase h hc)
  | cnt ρ p => exact fun fp σ H s => x fp σ H (s.unbase h hc)
  | ret z p => exact fun v H s => x v H (s.unbase h)
  | exc c fs p => exact XPost.base x h
  | bad => exact x.elim
/-- what stands in the base and is not hidden may be read in every state -/
theorem SRep.see {B : Hp} (s : SRep T B Mo fp ρ p σ H) (e : Sub H H') : Sub (hid Mo B) (hid (Hd Mo fp []) H') := fun a o h => by
  obtain ⟨h1, h2⟩ := hid_some h
  rw [hid_out]
  · exact e a o (s.grow a o h1)
  · intro q
    rcases q with q | ⟨i, _, q⟩
    · exact h2 q
    · rw [(s.fresh i a q).1] at h1
      cases h1
theorem SRep.bs_see (s : SRep T H0 Mo fp ρ p σ H) (x : PenRep T Mo p' H') {b : List Nat} : Sub (hid (Hd Mo fp b) H') (hid Mo (bs T (frzFp b fp) H')) := fun a o h => by
  obtain ⟨h1, h2⟩ := hid_some h
  rw [hid_out, bs, hid_out]
  · exact h1
  · intro q
    rcases q with q | ⟨i, q⟩
    · exact h2 (.inl (x.mo q).1)
    · obtain ⟨k1, k2⟩ := frzFp_mem b q
      exact h2 (.inr ⟨i, k1, k2⟩)
  · exact fun q => h2 (.inl q)
theorem IPost.imp {Wx : WX} {r : R (List D × List Nat)} {Q Q' : It → Hp → Prop} (h : IPost T Wx H0 Mo fp H r Q) (k : ∀ x p J H', r = .ok x p → Gr T H H' → PenRep T Mo p H' → JOk T (bs T (frzFp x.2 fp) H') Mo J x.1 → Q J H' → Q' J H') : IPost T Wx H0 Mo fp H r Q' := by
  cases r with
  | ok x p => exact fun J H' g xp j => k x p J H' rfl g xp j (h J H' g xp j)
  | exc c fs p => exact h
  | bad => exact h
theorem IPost.bind {Wx : WX} {r : R Z} {k : Z → Option Pen → R (List D × List Nat)} {Q : It → Hp → Prop} (h : IPost T Wx H0 Mo fp H (r.bind k) Q) : EPost T Wx H0 Mo fp Hs H r fun x p1 _ H1 => IPost T Wx H0 Mo fp H1 (k x p1) Q := by
  cases r with
  | ok z p =>
    intro v H1 g x zr
    have h : IPost T Wx H0 Mo fp H (k z p) Q := h
    show IPost T Wx H0 Mo fp H1 (k z p) Q
    cases e : k z p with
    | ok y p2 =>
      rw [e] at h
      exact fun J H2 g2 => h J H2 (g.trans g2)
    | exc c fs p =>
      rw [e] at h
      exact h
    | bad =>
      rw [e] at h
      exact h
  | exc c fs p => exact h
  | bad => exact h.elim

/-! the iterators -/
theorem JOk.list {B : Hp} {a : Addr} {ds : List D} {vs : List V} (e : B a = some (.lst vs)) (r : Rps T (hid Mo B) ds vs) {K : PySem.W.Frag} : JOk T B Mo (Itl K a) ds := by
  have q : ∀ H, Sub B H → SqL K H a vs := fun H s => .inl (.inl (s _ _ e))
  refine ⟨fun i H s h => ?_, fun i H s h => ⟨vs, q H s, by rw [← r.len]; exact h⟩, fun i H x H' s y => ?_⟩
  · obtain ⟨v, e1, _⟩ := r.at_ (List.getElem?_eq_getElem h)
    exact ⟨vs, v, q H s, e1⟩
  · obtain ⟨rfl, y⟩ := y
    refine ⟨.refl _, fun d hd G g _ => ?_⟩
    obtain ⟨v, e1, rv⟩ := r.at_ hd
    rw [y vs (q _ s)] at e1
    cases e1
    exact Rp.sub g d rv
theorem JOk.tup {B : Hp} {a : Addr} {ds : List D} {vs : List V} (e : SqT T.K B a vs) (r : Rps T (hid Mo B) ds vs) : JOk T B Mo (Itt T.K a) ds := by
  refine ⟨fun i H s h => ?_, fun i H s h => ⟨vs, s.sqt e, by rw [← r.len]; exact h⟩, fun i H x H' s y => ?_⟩
  · obtain ⟨v, e1, _⟩ := r.at_ (List.getElem?_eq_getElem h)
    exact ⟨vs, v, s.sqt e, e1⟩
  · obtain ⟨rfl, y⟩ := y
    refine ⟨.refl _, fun d hd G g _ => ?_⟩
    obtain ⟨v, e1, rv⟩ := r.at_ hd
    rw [y vs (s.sqt e)] at e1
    cases e1
    exact Rp.sub g d rv
def rangeD (lo c : Int) : Nat → List D
  | 0 => []
  | n + 1 => .int lo :: rangeD (lo + c) c n
theorem rangeD_len {c : Int} : ∀ {n : Nat} {lo : Int}, (rangeD lo c n).length = n
  | 0, _ => rfl
  | n + 1, lo => by rw [rangeD, List.length_cons, rangeD_len]
theorem rangeD_at {c : Int} : ∀ {n i : Nat} {lo : Int} {d : D}, (rangeD lo c n)[i]? = some d → d = .int (lo + i * c)
  | 0, i, lo, d, h => by cases h
  | n + 1, 0, lo, d, h => by
    have h : D.int lo = d := by simpa [rangeD] using h
    rw [← h]
    simp
  | n + 1, i + 1, lo, d, h => by
    have h : (rangeD (lo + c) c n)[i]? = some d := by simpa [rangeD] using h
    rw [rangeD_at h]
    congr 1
    rw [Int.natCast_add, Int.add_mul]
    omega
theorem JOk.rng {B : Hp} {lo : Int} {n : Nat} : JOk T B Mo (Itr lo n) (rangeD lo 1 n) := by
  refine ⟨fun i H s h => by rw [rangeD_len] at h; exact h, fun i H s h => by rw [rangeD_len] at h; exact h, fun i H x H' s y => ?_⟩
  obtain ⟨rfl, rfl⟩ := y
  exact ⟨.refl _, fun d hd G g _ => by rw [rangeD_at hd, Int.mul_one]; rfl⟩
theorem JOk.rngC {B : Hp} {lo c : Int} {n : Nat} : JOk T B Mo (Itc lo c n) (rangeD lo c n) := by
  refine ⟨fun i H s h => by rw [rangeD_len] at h; exact h, fun i H s h => by rw [rangeD_len] at h; exact h, fun i H x H' s y => ?_⟩
  obtain ⟨rfl, rfl⟩ := y
  exact ⟨.refl _, fun d hd G g _ => by rw [rangeD_at hd]; rfl⟩
def charsD (x : Str) : List D := x.cps.toList.map fun c => .str ⟨#[c]⟩
theorem JOk.str {B : Hp} {x : Str} : JOk T B Mo (Its x) (charsD x) := by
  have l : (charsD x).length = x.cps.size := by simp [charsD]
  refine ⟨fun i H s h => by rw [l] at h; exact h, fun i H s h => by rw [l] at h; exact h, fun i H y H' s q => ?_⟩
  obtain ⟨rfl, c, e, rfl⟩ := q
  refine ⟨.refl _, fun d hd G g _ => ?_⟩
  have e' : x.cps.toList[i]? = some c := by simpa using e
  have : d = .str ⟨#[c]⟩ := by
    unfold charsD at hd
    rw [List.getElem?_map, e'] at hd
    exact (Option.some.inj hd).symm
  rw [this]
  rfl
def enumD : Nat → List D → List D
  | _, [] => []
  | i, d :: ds => .tup [.int i, d] :: enumD (i + 1) ds
theorem enumD_len : ∀ {ds : List D} {k : Nat}, (enumD k ds).length = ds.length
  | [], _ => rfl
  | d :: ds, k => by rw [enumD, List.length_cons, enumD_len, List.length_cons]
theorem enumD_at : ∀ {ds : List D} {k i : Nat} {e : D}, (enumD k ds)[i]? = some e → ∃ d, ds[i]? = some d ∧ e = .tup [.int ((k + i : Nat) : Int), d]
  | [], k, i, e, h => by cases h
  | d :: ds, k, 0, e, h => ⟨d, rfl, by simpa [enumD] using h.symm⟩
  | d :: ds, k, i + 1, e, h => by
    have h : (enumD (k + 1) ds)[i]? = some e := by simpa [enumD] using h
    obtain ⟨d', h1, h2⟩ := enumD_at h
    exact ⟨d', by simpa using h1, by rw [h2, show k + 1 + i = k + (i + 1) by omega]⟩
theorem new_tup {G H H' : Hp} {q : Addr} {vs : List V} {ds : List D} (n : H q = none) (e : H' = upd H q (.tup vs)) (k : ∀ a o, H a = none → H' a = some o → G a = some o) (r : Rps T G ds vs) : Rp T G (.tup ds) (.ref q) :=
  ⟨q, vs, rfl, .inl (.inl (k q _ n (by rw [e, upd_same]))), r⟩
theorem JOk.enum {B : Hp} {a : Addr} {ds : List D} {vs : List V} (e : B a = some (.lst vs)) (r : Rps T (hid Mo B) ds vs) {K : PySem.W.Frag} : JOk T B Mo (Ite K a) (enumD 0 ds) := by
  have q : ∀ H, Sub B H → SqL K H a vs := fun H s => .inl (.inl (s _ _ e))
  refine ⟨fun i H s h => ?_, fun i H s h => ⟨vs, q H s, by rw [← r.len]; rw [enumD_len] at h; exact h⟩, fun i H x H' s y => ?_⟩
  · rw [enumD_len] at h
    obtain ⟨v, e1, _⟩ := r.at_ (List.getElem?_eq_getElem h)
    exact ⟨vs, v, q H s, e1⟩
  · obtain ⟨t, w, rfl, nt, eH, y⟩ := y
    refine ⟨by rw [eH]; exact .new nt, fun d hd G g k => ?_⟩
    obtain ⟨d', e1, e2⟩ := enumD_at hd
    obtain ⟨v, e3, rv⟩ := r.at_ e1
    rw [y vs (q _ s)] at e3
    cases e3
    rw [e2]
    refine new_tup nt eH k ⟨_, _, rfl, ?_, _, _, rfl, Rp.sub g d' rv, rfl⟩
    rw [Nat.zero_add]
    rfl
def zipD : List D → List D → List D
  | d :: ds, e :: es => .tup [d, e] :: zipD ds es
  | _, _ => []
theorem zipD_at : ∀ {ds es : List D} {i : Nat} {e : D}, (zipD ds es)[i]? = some e → ∃ d d', ds[i]? = some d ∧ es[i]? = some d' ∧ e = .tup [d, d']
  | [], es, i, e, h => by cases h
  | d :: ds, [], i, e, h => by cases h
  | d :: ds, d' :: es, 0, e, h => ⟨d, d', rfl, rfl, by simpa [zipD] using h.symm⟩
  | d :: ds, d' :: es, i + 1, e, h => by
    have h : (zipD ds es)[i]? = some e := by simpa [zipD] using h
    obtain ⟨d1, d2, h1, h2, h3⟩ := zipD_at h
    exact ⟨d1, d2, by simpa using h1, by simpa using h2, h3⟩
theorem zipD_len : ∀ {ds es : List D}, (zipD ds es).length = min ds.length es.length
  | [], es => by simp [zipD]
  | d :: ds, [] => by simp [zipD]
  | d :: ds, d' :: es => by rw [zipD, List.length_cons, zipD_len, List.length_cons, List.length_cons]; omega
theorem JOk.zipL {B : Hp} {a b : Addr} {ds es : List D} {vs ws : List V} (e : B a = some (.lst vs)) (e' : B b = some (.lst ws)) (r : Rps T (hid Mo B) ds vs) (r' : Rps T (hid Mo B) es ws) {K : PySem.W.Frag} : JOk T B Mo (Itz K a b) (zipD ds es) := by
  have q : ∀ H, Sub B H → SqL K H a vs := fun H s => .inl (.inl (s _ _ e))
  have q' : ∀ H, Sub B H → SqL K H b ws := fun H s => .inl (.inl (s _ _ e'))
  refine ⟨fun i H s h => ?_, fun i H s h => ⟨vs, ws, q H s, q' H s, by rw [← r.len, ← r'.len]; rw [zipD_len] at h; omega⟩, fun i H x H' s y => ?_⟩
  · rw [zipD_len] at h
    obtain ⟨v, e1, _⟩ := r.at_ (List.getElem?_eq_getElem (show i < ds.length by omega))
    obtain ⟨w, e2, _⟩ := r'.at_ (List.getElem?_eq_getElem (show i < es.length by omega))
    exact ⟨vs, ws, v, w, q H s, q' H s, e1, e2⟩
  · obtain ⟨t, v, w, rfl, nt, eH, y, y'⟩ := y
    refine ⟨by rw [eH]; exact .new nt, fun d hd G g k => ?_⟩
    obtain ⟨d1, d2, e1, e2, e3⟩ := zipD_at hd
    obtain ⟨v1, f1, rv⟩ := r.at_ e1
    obtain ⟨v2, f2, rw_⟩ := r'.at_ e2
    rw [y vs (q _ s)] at f1
    rw [y' ws (q' _ s)] at f2
    cases f1
    cases f2
    rw [e3]
    exact new_tup nt eH k ⟨_, _, rfl, Rp.sub g d1 rv, _, _, rfl, Rp.sub g d2 rw_, rfl⟩
theorem JOk.zipT {B : Hp} {a b : Addr} {ds es : List D} {vs ws : List V} (e : SqT T.K B a vs) (e' : SqT T.K B b ws) (r : Rps T (hid Mo B) ds vs) (r' : Rps T (hid Mo B) es ws) : JOk T B Mo (RZ.ItzT T.K a b) (zipD ds es) := by
  refine ⟨fun i H s h => ?_, fun i H s h => ⟨vs, ws, s.sqt e, s.sqt e', by rw [← r.len, ← r'.len]; rw [zipD_len] at h; omega⟩, fun i H x H' s y => ?_⟩
  · rw [zipD_len] at h
    obtain ⟨v, e1, _⟩ := r.at_ (List.getElem?_eq_getElem (show i < ds.length by omega))
    obtain ⟨w, e2, _⟩ := r'.at_ (List.getElem?_eq_getElem (show i < es.length by omega))
    exact ⟨vs, ws, v, w, s.sqt e, s.sqt e', e1, e2⟩
  · obtain ⟨t, v, w, rfl, nt, eH, y, y'⟩ := y
    refine ⟨by rw [eH]; exact .new nt, fun d hd G g k => ?_⟩
    obtain ⟨d1, d2, e1, e2, e3⟩ := zipD_at hd
    obtain ⟨v1, f1, rv⟩ := r.at_ e1
    obtain ⟨v2, f2, rw_⟩ := r'.at_ e2
    rw [y vs (s.sqt e)] at f1
    rw [y' ws (s.sqt e')] at f2
    cases f1
    cases f2
    rw [e3]
    exact new_tup nt eH k ⟨_, _, rfl, Rp.sub g d1 rv, _, _, rfl, Rp.sub g d2 rw_, rfl⟩
end

/-! the rules -/
/-- a list, a tuple or a text -/
def iSeq (K : PySem.W.Frag) (tl : TE) : TI := fun σ H R => tl σ H fun x H1 =>
  (∃ a, x = .ref a ∧ (∃ xs, SqL K H1 a xs) ∧ R (Itl K a) H1) ∨ (∃ a, x = .ref a ∧ (∃ xs, SqT K H1 a xs) ∧ R (Itt K a) H1) ∨ ∃ y, x = .str y ∧ R (Its y) H1
def seqOf : D → Option (List D)
  | .lst ds => some ds
  | .tup ds => some ds
  | .str x => some (charsD x)
  | _ => none
def iX (m : M Z) : IM := fun ρ p => (m ρ p).bind fun z p => match seqOf z.d with | some ds => .ok (ds, z.lo) p | none => .bad
section
variable {X : Cx} {T : Tx} {Wx : WX} {tg l : Expr} {m : M Z}
theorem pi_seq {tl : TE} (hl : PE X l tl) : PI X tg l (iSeq X.K tl) := by
  refine ⟨fun pins s σ H R I h => ?_⟩
  refine thn (hl.run pins s σ H _ I h) fun v s1 ⟨x, H1, I1, r1, q1⟩ => ?_
  rcases q1 with ⟨a, e, ⟨xs, hq⟩, q⟩ | ⟨a, e, ⟨xs, hq⟩, q⟩ | ⟨y, e, q⟩
  · subst e
    cases r1
    obtain ⟨its, rv, p, hz⟩ := I1.list hq
    exact wpAny_pyIter_list p.isList (pi_one (tk := s1.toks) I1 _ (turn_list a _) ⟨_, Heap.get?_push_size _ rfl, rfl, rfl⟩ q)
  · subst e
    cases r1
    obtain ⟨its, rv, p, hz⟩ := I1.tuple hq
    exact wpAny_pyIter_tuple (show s1.heap.IsTuple a its.toArray from p) (pi_one (tk := s1.toks) I1 _ (turn_tuple a _) ⟨_, Heap.get?_push_size _ rfl, rfl, rfl⟩ q)
  · subst e
    obtain ⟨t, rfl⟩ := r1
    cases ha : y.cps.all (· < 128)
    · exact wpAny_pyIter_wide ha (pi_one (tk := s1.toks) I1 _ (turn_str _ y t "str_iterator" (.inr rfl)) ⟨_, Heap.get?_push_size _ rfl, rfl, rfl⟩ q)
    · exact wpAny_pyIter_ascii ha (pi_one (tk := s1.toks) I1 _ (turn_str _ y t "str_ascii_iterator" (.inl rfl)) ⟨_, Heap.get?_push_size _ rfl, rfl, rfl⟩ q)
/-- what a value of an expression gives to go through -/
theorem seq_see {H0 Hs H H' : Hp} {Mo : Addr → Prop} {fp : Nat → List Addr} {ρ : Env} {p p' : Option Pen} {σ : L2.St} {z : Z} {v : V} (s : SRep T H0 Mo fp ρ p σ H) (x : PenRep T Mo p' H') (zr : ZRep T Mo fp Hs z v H') : Rp T (hid Mo (bs T (frzFp z.lo fp) H')) z.d v :=
  Rp.sub (s.bs_see x) _ (zr.all fun i h => h)
theorem hid_some' {S : Addr → Prop} {H : Hp} {a : Addr} {o : HO} (h : hid S H a = some o) : H a = some o := (hid_some h).1
theorem di_seq (hK : T.K = X.K) (h : DE X T Wx l m) : DI X T Wx tg l (iX m) := (pi_seq h).mono fun σ H Q h => by
  obtain ⟨H0, Mo, fp, ρ, p, s, h⟩ := h
  refine ⟨H0, Mo, fp, ρ, p, s, (IPost.bind (Hs := H) h).imp fun z p1 v H1 _ g x zr h => ?_⟩
  have r := seq_see s x zr
  cases e : z.d with
  | lst ds =>
    rw [e] at h r
    obtain ⟨a, vs, rfl, h1, h2⟩ := r
    exact .inl ⟨a, rfl, ⟨vs, .inl (.inl (hid_sub _ _ (hid_sub _ _ h1)))⟩, h (Itl X.K a) H1 (.refl _) x (.list (hid_some' h1) h2)⟩
  | tup ds =>
    rw [e] at h r
    obtain ⟨a, vs, rfl, h1, h2⟩ := r
    rw [← hK]
    exact .inr (.inl ⟨a, rfl, ⟨vs, hid_sub.sqt (hid_sub.sqt h1)⟩, h (Itt T.K a) H1 (.refl _) x (.tup (hid_sub.sqt h1) h2)⟩)
  | str y =>
    rw [e] at h r
    exact .inr (.inr ⟨y, r, h (Its y) H1 (.refl _) x .str⟩)
  | _ => rw [e] at h; exact h.elim
end

def iR (op : List Z → Option (List D × List Nat)) (g : M (List Z)) : IM := fun ρ p => (g ρ p).bind fun zs p1 => match op zs with | some x => .ok x p1 | none => .bad
def rng2 (i j : Int) : Option (List D × List Nat) := if -(2 ^ 62) ≤ i ∧ i < 2 ^ 62 ∧ -(2 ^ 62) ≤ j ∧ j < 2 ^ 62 then some (rangeD i 1 (j - i).toNat, []) else none
def rng3 (i j c : Int) : Option (List D × List Nat) :=
  if c ≠ 0 ∧ c.natAbs < 1073741824 ∧ Builtin.Range.small i j c = true ∧ Builtin.Range.rangeSize i j c = ((Builtin.Range.rangeSize i j c).toNat : Int) then some (rangeD i c (Builtin.Range.rangeSize i j c).toNat, []) else none
def opRng1 : List Z → Option (List D × List Nat)
  | [a] => match a.d with | .int j => rng2 0 j | _ => none
  | _ => none
def opRng2 : List Z → Option (List D × List Nat)
  | [a, b] => match a.d, b.d with | .int i, .int j => rng2 i j | _, _ => none
  | _ => none
def opRng3 : List Z → Option (List D × List Nat)
  | [a, b, c] => match a.d, b.d, c.d with | .int i, .int j, .int k => rng3 i j k | _, _, _ => none
  | _ => none
def opEnum : List Z → Option (List D × List Nat)
  | [a] => match a.d with | .lst ds => some (enumD 0 ds, a.lo) | _ => none
  | _ => none
def opZip : List Z → Option (List D × List Nat)
  | [a, b] => match a.d, b.d with
    | .lst ds, .lst es => some (zipD ds es, a.lo ++ b.lo)
    | .tup ds, .tup es => some (zipD ds es, a.lo ++ b.lo)
    | _, _ => none
  | _ => none
section
variable {X : Cx} {T : Tx} {Wx : WX} {tg a b c : Expr} {g : M (List Z)} {p pos : Pos}
theorem ZReps.three {T : Tx} {Mo : Addr → Prop} {fp : Nat → List Addr} {H : Hp} {z y u : Z} {vs : List V} (h : ZReps T Mo fp H [z, y, u] vs) : ∃ Hs Ht Hu v w x, vs = [v, w, x] ∧ ZRep T Mo fp Hs z v H ∧ ZRep T Mo fp Ht y w H ∧ ZRep T Mo fp Hu u x H := by
  cases h with
  | cons a ns t =>
    obtain ⟨Ht, Hu, w, x, rfl, b, c⟩ := t.two
    exact ⟨_, _, _, _, _, _, rfl, a, b, c⟩
/-- the arguments, then what op makes of them -/
theorem up_iR {op : List Z → Option (List D × List Nat)} {σ : L2.St} {H : Hp} {Q : It → Hp → Prop} {K : List V → Hp → Prop} (h : upI T Wx (iR op g) σ H Q)
    (k : ∀ H0 Mo fp ρ p zs x vs H1, SRep T H0 Mo fp ρ p σ H1 → ZReps T Mo fp H1 zs vs → op zs = some x → (∀ J, JOk T (bs T (frzFp x.2 fp) H1) Mo J x.1 → Q J H1) → K vs H1) : upA T Wx g σ H K := by
  obtain ⟨H0, Mo, fp, ρ, p, s, h⟩ := h
  refine ⟨H0, Mo, fp, ρ, p, s, ?_⟩
  unfold iR at h
  cases e : g ρ p with
  | bad =>
    rw [e] at h
    exact h.elim
  | exc c fs p1 =>
    rw [e] at h
    exact h
  | ok zs p1 =>
    rw [e] at h
    intro vs H1 g1 x1 zrs
    have h : IPost T Wx H0 Mo fp H (match op zs with | some x => .ok x p1 | none => .bad) Q := h
    cases e2 : op zs with
    | none =>
      rw [e2] at h
      exact h.elim
    | some x =>
      rw [e2] at h
      exact k H0 Mo fp ρ p1 zs x vs H1 (s.grows g1 x1) zrs e2 fun J j => h J H1 g1 x1 j
theorem int_of {Mo : Addr → Prop} {fp : Nat → List Addr} {Hs H : Hp} {z : Z} {v : V} {i : Int} (zr : ZRep T Mo fp Hs z v H) (e : z.d = .int i) : v = .int i := by
  have r := zr.full
  rw [e] at r
  exact r
theorem rng2_some {i j : Int} {x : List D × List Nat} (e : rng2 i j = some x) : (-(2 ^ 62) ≤ i ∧ i < 2 ^ 62 ∧ -(2 ^ 62) ≤ j ∧ j < 2 ^ 62) ∧ x = (rangeD i 1 (j - i).toNat, []) := by
  unfold rng2 at e
  split at e
  · rename_i h
    exact ⟨h, (Option.some.inj e).symm⟩
  · cases e
theorem di_rng1 (ha : DA X T Wx [a] g) (hg : Gl X "range") (hm : X.mg "range" = none) (hs : starEach [a] X.env = [(false, eval a X.env)] := by rfl) : DI X T Wx tg (.Call (.Name "range" p) [a] [] pos) (iR opRng1 g) :=
  (pi_range1 hg hm ha hs).mono fun σ H Q h => up_iR h fun H0 Mo fp ρ p zs x vs H1 s zrs e q => by
    unfold opRng1 at e
    split at e
    · split at e
      · rename_i a j e1
        obtain ⟨Hs, v, rfl, zr⟩ := zrs.one
        obtain ⟨⟨h1, h2, h3, h4⟩, rfl⟩ := rng2_some e
        rw [int_of zr e1]
        refine ⟨j, rfl, h3, h4, q _ ?_⟩
        have := JOk.rng (T := T) (B := bs T (frzFp [] fp) H1) (Mo := Mo) (lo := 0) (n := (j - 0).toNat)
        rw [Int.sub_zero] at this ⊢
        exact this
      · cases e
    · cases e
theorem di_rng2 (ha : DA X T Wx [a, b] g) (hg : Gl X "range") (hm : X.mg "range" = none) (hs : starEach [a, b] X.env = [(false, eval a X.env), (false, eval b X.env)] := by rfl) (hs2 : starEach [b] X.env = [(false, eval b X.env)] := by rfl) : DI X T Wx tg (.Call (.Name "range" p) [a, b] [] pos) (iR opRng2 g) :=
  (pi_range2 hg hm ha hs hs2).mono fun σ H Q h => up_iR h fun H0 Mo fp ρ p zs x vs H1 s zrs e q => by
    unfold opRng2 at e
    split at e
    · split at e
      · rename_i a b i j e1 e2
        obtain ⟨Hs, Ht, v, w, rfl, zr, zr2⟩ := zrs.two
        obtain ⟨h1, rfl⟩ := rng2_some e
        rw [int_of zr e1, int_of zr2 e2]
        exact ⟨i, j, rfl, h1, q _ .rng⟩
      · cases e
    · cases e
theorem di_rng3 (ha : DA X T Wx [a, b, c] g) (hg : Gl X "range") (hm : X.mg "range" = none) (hs : starEach [a, b, c] X.env = (false, eval a X.env) :: starEach [b, c] X.env := by rfl) (hpl : (backTo pos (starEach [b, c] X.env)).any (·.1) = false := by rfl) : DI X T Wx tg (.Call (.Name "range" p) [a, b, c] [] pos) (iR opRng3 g) :=
  (pi_range3 hg hm ha hs hpl).mono fun σ H Q h => up_iR h fun H0 Mo fp ρ p zs x vs H1 s zrs e q => by
    unfold opRng3 at e
    split at e
    · split at e
      · rename_i a b c i j k e1 e2 e3
        obtain ⟨_, _, _, v, w, u, rfl, zr, zr2, zr3⟩ := zrs.three
        unfold rng3 at e
        split at e
        · rename_i hh
          obtain ⟨h1, h2, h3, h4⟩ := hh
          cases e
          rw [int_of zr e1, int_of zr2 e2, int_of zr3 e3]
          exact ⟨i, j, k, _, rfl, ⟨h1, h2, h3, h4⟩, q _ .rngC⟩
        · cases e
      · cases e
    · cases e
theorem rp_see {H0 Hs H : Hp} {Mo : Addr → Prop} {fp : Nat → List Addr} {ρ : Env} {p : Option Pen} {σ : L2.St} {z : Z} {v : V} {b : List Nat} (s : SRep T H0 Mo fp ρ p σ H) (zr : ZRep T Mo fp Hs z v H) (k : ∀ i ∈ z.lo, i ∈ b) : Rp T (hid Mo (bs T (frzFp b fp) H)) z.d v :=
  Rp.sub (s.bs_see s.pen) _ (zr.all k)
theorem di_enum {elts : List Expr} {kk : Nat} {tpos : Pos} (hK : T.K = X.K) (ha : DA X T Wx [a] g) (hg : Gl X "enumerate") (hm : X.mg "enumerate" = none) (hs : starEach [a] X.env = [(false, eval a X.env)] := by rfl) : DI X T Wx (.Tuple elts kk tpos) (.Call (.Name "enumerate" p) [a] [] pos) (iR opEnum g) :=
  (pi_enum hg hm ha hs).mono fun σ H Q h => up_iR h fun H0 Mo fp ρ p zs x vs H1 s zrs e q => by
    unfold opEnum at e
    split at e
    · split at e
      · rename_i a ds e1
        obtain ⟨Hs, v, rfl, zr⟩ := zrs.one
        cases e
        have r := rp_see s zr fun i h => h
        rw [e1] at r
        obtain ⟨a, vs, rfl, h1, h2⟩ := r
        exact ⟨a, vs, rfl, .inl (.inl (hid_sub _ _ (hid_sub _ _ h1))), q _ (.enum (hid_some' h1) h2)⟩
      · cases e
    · cases e
theorem di_zip {elts : List Expr} {kk : Nat} {tpos : Pos} (hK : T.K = X.K) (ha : DA X T Wx [a, b] g) (hg : Gl X "zip") (hm : X.mg "zip" = none) (hs : starEach [a, b] X.env = (false, eval a X.env) :: starEach [b] X.env := by rfl) (hpl : (backTo pos (starEach [b] X.env)).any (·.1) = false := by rfl) : DI X T Wx (.Tuple elts kk tpos) (.Call (.Name "zip" p) [a, b] [] pos) (iR opZip g) :=
  (RZ.pi_zipA hg hm ha hs hpl).mono fun σ H Q h => up_iR h fun H0 Mo fp ρ p zs x vs H1 s zrs e q => by
    unfold opZip at e
    split at e
    · rename_i a b
      obtain ⟨Hs, Ht, v, w, rfl, zr, zr2⟩ := zrs.two
      have r := rp_see (b := a.lo ++ b.lo) s zr fun i h => List.mem_append_left _ h
      have r2 := rp_see (b := a.lo ++ b.lo) s zr2 fun i h => List.mem_append_right _ h
      split at e
      · rename_i ds es e1 e2
        cases e
        rw [e1] at r
        rw [e2] at r2
        obtain ⟨a, vs, rfl, h1, h2⟩ := r
        obtain ⟨b, ws, rfl, h3, h4⟩ := r2
        exact ⟨a, b, vs, ws, rfl, .inl ⟨.inl (.inl (hid_sub _ _ (hid_sub _ _ h1))), .inl (.inl (hid_sub _ _ (hid_sub _ _ h3))), q _ (.zipL (hid_some' h1) (hid_some' h3) h2 h4)⟩⟩
      · rename_i ds es e1 e2
        cases e
        rw [e1] at r
        rw [e2] at r2
        obtain ⟨a, vs, rfl, h1, h2⟩ := r
        obtain ⟨b, ws, rfl, h3, h4⟩ := r2
        rw [← hK]
        exact ⟨a, b, vs, ws, rfl, .inr ⟨hid_sub.sqt (hid_sub.sqt h1), hid_sub.sqt (hid_sub.sqt h3), q _ (.zipT (hid_sub.sqt h1) (hid_sub.sqt h3) h2 h4)⟩⟩
      · cases e
    · cases e
end

/-! ### loops -/
def loopO (tm : TM) (b : SM) : List D → SM
  | [], ρ, p => .nx ρ p
  | d :: ds, ρ, p => match tm d ρ with
    | none => .bad
    | some ρ1 => match b ρ1 p with
      | .nx ρ2 p2 => loopO tm b ds ρ2 p2
      | .cnt ρ2 p2 => loopO tm b ds ρ2 p2
      | .brk ρ2 p2 => .nx ρ2 p2
      | .ret z p2 => .ret z p2
      | .exc c fs p2 => .exc c fs p2
      | .bad => .bad
def sFor (m : IM) (tm : TM) (b : SM) : SM := fun ρ p => (m ρ p).thenO fun x p1 => loopO tm b x.1 (frz x.2 ρ) p1
section
variable {X : Cx} {T : Tx} {Wx : WX} {tg it c : Expr} {m : IM} {tm : TM} {body : List Stmt} {b : SM} {pos : Pos} {mc : M Z}
theorem ds_for (hp : PassesOwn (model X.prog X.w) X.A X.env X.xe) (hc : X.calm = true) (hi : DI X T Wx tg it m) {js : List Nat} (hg : DG X T tg js tm) (hb : DSs X T Wx body b) (hs : ∀ x, foldedSetIterable it X.env x = pure x := by intro _; rfl) : DS X T Wx (.For tg it body [] pos) (sFor m tm b) :=
  (ps_for hp hc hi hg hb hs).mono fun D σ H h => by
    obtain ⟨H0, Mo, fp, ρ, p, s, h⟩ := h
    refine ⟨H0, Mo, fp, ρ, p, s, ?_⟩
    unfold sFor at h
    cases e : m ρ p with
    | bad =>
      rw [e] at h
      exact h.elim
    | exc c fs p1 =>
      rw [e] at h
      exact h
    | ok x p1 =>
      rw [e] at h
      intro J H1 g1 x1 j
      have h : SPost T Wx H0 Mo (loopO tm b x.1 (DL.frz x.2 ρ) p1) D := h
      have s1 := (s.grows g1 x1).frz x.2
      have h := h.base s1.sub_bs s.cap
      have s1 := s1.base
      generalize bs T (frzFp x.2 fp) H1 = B at *
      refine ⟨fun i m σ H => ∃ fp ρ p, m = x.1.length - i ∧ SRep T B Mo fp ρ p σ H ∧ SPost T Wx B Mo (loopO tm b (x.1.drop i) ρ p) D, ⟨_, _, _, _, rfl, s1, h⟩, fun i m σ H ⟨fp, ρ, p, em, s, h⟩ => ?_⟩
      by_cases q : i < x.1.length
      · refine .inr ⟨j.go i H s.grow q, fun σ' H' => ∃ fp ρ p, SRep T B Mo fp ρ p σ' H' ∧ SPost T Wx B Mo (loopO tm b (x.1.drop (i + 1)) ρ p) D, fun σ' H' ⟨fp, ρ, p, s, h⟩ => ⟨_, by omega, fp, ρ, p, rfl, s, h⟩, fun y H' hy => ?_⟩
        obtain ⟨sub, k⟩ := j.yld i H y H' s.grow hy
        have ed : x.1[i]? = some x.1[i] := List.getElem?_eq_getElem q
        rw [List.drop_eq_getElem_cons q] at h
        generalize x.1[i] = d at ed h
        have rp := k d ed (hid (Hd Mo fp []) H') (s.see sub) fun a o n e => by
          rw [hid_out]
          · exact e
          · intro z
            exact s.hdThere z n
        have s' := s.grows (.of sub) (s.pen.sub sub)
        unfold loopO at h
        cases et : tm d ρ with
        | none =>
          rw [et] at h
          exact h.elim
        | some ρ1 =>
          rw [et] at h
          refine ⟨B, Mo, fp, ρ, p, d, ρ1, s', rp, et, fun fp' σ' s2 _ _ _ => ⟨B, Mo, fp', ρ1, p, s2, ?_⟩⟩
          have h : SPost T Wx B Mo (match b ρ1 p with
            | .nx ρ2 p2 => loopO tm b (x.1.drop (i + 1)) ρ2 p2
            | .cnt ρ2 p2 => loopO tm b (x.1.drop (i + 1)) ρ2 p2
            | .brk ρ2 p2 => .nx ρ2 p2
            | .ret z p2 => .ret z p2
            | .exc c fs p2 => .exc c fs p2
            | .bad => .bad) D := h
          cases eb : b ρ1 p with
          | nx ρ2 p2 =>
            rw [eb] at h
            exact fun fp σ H s => ⟨fp, ρ2, p2, s, h⟩
          | cnt ρ2 p2 =>
            rw [eb] at h
            exact fun fp σ H s => ⟨fp, ρ2, p2, s, h⟩
          | brk ρ2 p2 =>
            rw [eb] at h
            exact h
          | ret z p2 =>
            rw [eb] at h
            exact h
          | exc c fs p2 =>
            rw [eb] at h
            exact h
          | bad =>
            rw [eb] at h
            exact h.elim
      · refine .inl ⟨j.stop i H s.grow (by omega), ?_⟩
        rw [List.drop_eq_nil_of_le (by omega)] at h
        exact h _ _ _ s
/-- a while loop, by fuel -/
def whileO (c : M Z) (b : SM) : Nat → SM
  | 0, _, _ => .bad
  | n + 1, ρ, p => (c ρ p).thenO fun z p1 => match truth z.d with
    | none => .bad
    | some false => .nx ρ p1
    | some true => match b ρ p1 with
      | .nx ρ2 p2 => whileO c b n ρ2 p2
      | .cnt ρ2 p2 => whileO c b n ρ2 p2
      | .brk ρ2 p2 => .nx ρ2 p2
      | .ret z p2 => .ret z p2
      | .exc c fs p2 => .exc c fs p2
      | .bad => .bad
theorem ds_while (n : Nat) (hp : PassesOwn (model X.prog X.w) X.A X.env X.xe) (hc : DT X T Wx c mc) (hb : DSs X T Wx body b) : DS X T Wx (.While c body [] pos) (whileO mc b n) :=
  (ps_while hp hc hb).mono fun D σ H h => by
    obtain ⟨H0, Mo, fp, ρ, p, s, h⟩ := h
    refine ⟨fun m σ H => ∃ fp ρ p, SRep T H0 Mo fp ρ p σ H ∧ SPost T Wx H0 Mo (whileO mc b m ρ p) D, ⟨n, fp, ρ, p, s, h⟩, fun m σ H ⟨fp, ρ, p, s, h⟩ => ?_⟩
    cases m with
    | zero => exact h.elim
    | succ m =>
      refine ⟨H0, Mo, fp, ρ, p, s, (SPost.bind (Hs := H) (H := H) h).imp fun z p1 v H1 _ g x zr h => ?_⟩
      cases e : truth z.d with
      | none =>
        rw [e] at h
        exact h.elim
      | some t =>
        rw [e] at h
        refine ⟨t, rfl, ?_⟩
        have s1 := s.grows g x
        cases t with
        | false =>
          dsimp only
          rw [if_neg Bool.false_ne_true]
          exact h _ _ _ s1
        | true =>
          dsimp only
          rw [if_pos rfl]
          refine ⟨fun σ' H' => ∃ fp ρ p, SRep T H0 Mo fp ρ p σ' H' ∧ SPost T Wx H0 Mo (whileO mc b m ρ p) D, fun σ' H' ⟨fp, ρ, p, s, h⟩ => ⟨m, Nat.lt_succ_self m, fp, ρ, p, s, h⟩, H0, Mo, fp, ρ, p1, s1, ?_⟩
          have h : SPost T Wx H0 Mo (match b ρ p1 with
            | .nx ρ2 p2 => whileO mc b m ρ2 p2
            | .cnt ρ2 p2 => whileO mc b m ρ2 p2
            | .brk ρ2 p2 => .nx ρ2 p2
            | .ret z p2 => .ret z p2
            | .exc c fs p2 => .exc c fs p2
            | .bad => .bad) D := h
          cases eb : b ρ p1 with
          | nx ρ2 p2 =>
            rw [eb] at h
            exact fun fp σ H s => ⟨fp, ρ2, p2, s, h⟩
          | cnt ρ2 p2 =>
            rw [eb] at h
            exact fun fp σ H s => ⟨fp, ρ2, p2, s, h⟩
          | brk ρ2 p2 =>
            rw [eb] at h
            exact h
          | ret z p2 =>
            rw [eb] at h
            exact h
          | exc c fs p2 =>
            rw [eb] at h
            exact h
          | bad =>
            rw [eb] at h
            exact h.elim
end
end DL
set_option Elab.async false
set_option linter.all false
set_option maxRecDepth 100000
set_option maxHeartbeats 2000000
/-! # The data layer, part 7: list comprehensions -/
namespace DL
open PySem PySem.Spec PyProof.Rows L2

theorem _root_.L2.PTs.mono {X : Cx} {e : List Expr} {t t' : TT} (h : PTs X e t) (k : ∀ σ H Q, t' σ H Q → t σ H Q) : PTs X e t' := ⟨fun pins s σ H Q I q => h.run pins s σ H Q I (k σ H Q q)⟩
def wipeE (ρ : Env) : List Nat → Env
  | [] => ρ
  | v :: vs => (wipeE ρ vs).set v none
def wOk (ρ : Env) : List Nat → Bool
  | [] => true
  | i :: vs => (match ρ[i]? with | some (some c) => c.o == 0 | _ => true) && wOk ρ vs
section
variable {T : Tx} {H0 H H' Hs : Hp} {Mo Mo' : Addr → Prop} {fp : Nat → List Addr} {ρ : Env} {p p' : Option Pen} {σ : L2.St} {v : V} {d : D} {z : Z}
theorem SRep.unown (s : SRep T H0 Mo fp ρ p σ H) {i : Nat} (h : ∀ c, ρ[i]? = some (some c) → c.o = 0) : fp i = [] := by
  by_cases q : ∃ c, ρ[i]? = some (some c)
  · obtain ⟨c, e⟩ := q
    obtain ⟨v, _, r⟩ := s.cell i c e
    rw [h c e] at r
    exact r.1
  · exact s.none_ i fun c e => q ⟨c, e⟩
theorem SRep.wOk (s : SRep T H0 Mo fp ρ p σ H) : ∀ {vs : List Nat}, wOk ρ vs = true → ∀ i ∈ vs, fp i = []
  | [], _, i, hi => absurd hi (by simp)
  | v :: vs, h, i, hi => by
    have h := (Bool.and_eq_true _ _).mp h
    rcases List.mem_cons.mp hi with z | z
    · subst z
      refine s.unown fun c e => ?_
      have h1 := h.1
      rw [e] at h1
      exact eq_of_beq h1
    · exact s.wOk h.2 i z
theorem SRep.wipe1 (s : SRep T H0 Mo fp ρ p σ H) {i : Nat} (h : fp i = []) : SRep T H0 Mo fp (ρ.set i none) p (σ.set i none) H := by
  refine ⟨by rw [List.length_set, List.length_set]; exact s.len, s.pen, s.mo, s.grow, s.pb, s.cap, s.fresh, s.nod, s.dis, fun k c e => ?_, fun k hk => ?_⟩
  · by_cases q : k = i
    · subst q
      by_cases l : k < ρ.length
      · rw [List.getElem?_set_self l] at e
        cases e
      · rw [List.getElem?_eq_none (by rw [List.length_set]; omega)] at e
        cases e
    · rw [List.getElem?_set_ne fun e => q e.symm] at e
      obtain ⟨v, e1, r⟩ := s.cell k c e
      exact ⟨v, by rw [List.getElem?_set_ne fun e => q e.symm]; exact e1, r⟩
  · by_cases q : k = i
    · rw [q, h]
    · refine s.none_ k fun c e => hk c ?_
      rw [List.getElem?_set_ne fun e => q e.symm]
      exact e
theorem SRep.wipe (s : SRep T H0 Mo fp ρ p σ H) : ∀ {vs : List Nat}, (∀ i ∈ vs, fp i = []) → SRep T H0 Mo fp (wipeE ρ vs) p (wipe σ vs) H
  | [], _ => s
  | v :: vs, h => (s.wipe fun i hi => h i (List.mem_cons_of_mem _ hi)).wipe1 (h v List.mem_cons_self)
/-- the pen and the tables stand while a list changes that is none of theirs -/
theorem PenRep.change (x : PenRep T Mo p H) {a : Addr} {o u : HO} (h : H a = some u) (ld : isLD u) (w : ¬ T.sp a) (wc : T.W ≠ none → T.Wc ≠ a) : PenRep T Mo p (upd H a o) := by
  refine ⟨?_, fun b q h' => ⟨(x.tab b q h').1, ?_⟩⟩
  · have x := x.pen
    unfold Pen0 at x ⊢
    cases hW : T.W with
    | none =>
      rw [hW] at x
      cases p with
      | none => trivial
      | some q => exact x.elim
    | some b =>
      rw [hW] at x
      cases p with
      | none => exact x.elim
      | some q =>
        obtain ⟨h1, h2, h3⟩ := x
        refine ⟨?_, ?_, h3⟩
        · rw [upd_ne fun e => w (.inl (by rw [hW, e]))]
          exact h1
        · rw [upd_ne (wc (by rw [hW]; exact fun q => nomatch q))]
          exact h2
  · obtain ⟨_, ps, h1, h2, h3⟩ := x.tab b q h'
    have ne : ∀ c r, H c = some r → ¬ isLD r → c ≠ a := fun c r e n z => by
      rw [z, h] at e
      cases e
      exact n ld
    refine ⟨ps, ?_, h2, fun pos cv hc => ?_⟩
    · rw [upd_ne (ne _ _ h1 id)]
      exact h1
    · obtain ⟨c, e1, e2, e3⟩ := h3 pos cv hc
      refine ⟨c, e1, ?_, e3⟩
      rw [upd_ne (ne _ _ e2 code_ld)]
      exact e2
/-- a hidden list that is new may change -/
theorem SRep.poke (s : SRep T H0 Mo fp ρ p σ H) {a : Addr} {o u : HO} (hu : H a = some u) (ld : isLD u) (h : Mo a) (n : H0 a = none) (w : ¬ T.sp a) (wc : T.W ≠ none → T.Wc ≠ a) : SRep T H0 Mo fp ρ p σ (upd H a o) := by
  have np := s.pen.change (o := o) hu ld w wc
  refine ⟨s.len, np, fun b hb => ?_, fun b u e => ?_, s.pb, s.cap, s.fresh, s.nod, s.dis, fun i c e => ?_, s.none_⟩
  · by_cases q : b = a
    · rw [q, upd_same]
      exact fun q => nomatch q
    · rw [upd_ne q]
      exact s.mo b hb
  · rw [upd_ne fun q => by rw [q, n] at e; cases e]
    exact s.grow b u e
  · obtain ⟨v, e1, r⟩ := s.cell i c e
    refine ⟨v, e1, r.step (hid_step (fun b u e q => ?_) fun b q => .inl q) _ fun b hb u e => ?_⟩
    · rw [upd_ne fun z => q (by rw [z]; exact .inl h)]
      exact e
    · rw [upd_ne fun z => (s.fresh i b hb).2 (by rw [z]; exact h)]
      exact e
theorem frzFp_of : ∀ (bs : List Nat) {fp : Nat → List Addr} {i : Nat} {a : Addr}, i ∉ bs → a ∈ fp i → a ∈ frzFp bs fp i
  | [], _, _, _, _, h => h
  | j :: bs, fp, i, a, hn, h => by
    show a ∈ frzFp bs (fun i => if i = j then [] else fp i) i
    refine frzFp_of bs (fun q => hn (List.mem_cons_of_mem _ q)) ?_
    show a ∈ if i = j then [] else fp i
    rw [if_neg fun e => hn (by rw [e]; exact List.mem_cons_self)]
    exact h
/-- to the depth n -/
theorem ZRep.ownN (x : ZRep T Mo fp Hs z v H) {n : Nat} (h : n = 0 ∨ z.f = n) : ∃ as, OwnR T (hid (fun a => Hd Mo fp z.lo a ∨ a ∈ as) H) H n z.d v as ∧ as.Nodup ∧ ∀ a ∈ as, Hs a = none := by
  by_cases q : n = 0
  · subst q
    refine ⟨[], ⟨rfl, Rp.sub (hid_mono fun a h => .inl (h.elim id fun q => absurd q (by simp))) z.d (x.all fun i hi => hi)⟩, List.nodup_nil, fun a h => absurd h (by simp)⟩
  · have e : z.f = n := h.elim (fun z => absurd z q) id
    obtain ⟨as, h1, h2, h3⟩ := x.own (by rw [e]; exact q)
    rw [e] at h1
    exact ⟨as, h1.step (hid_mono fun a h => .inl (h.elim (fun z => .inl (z.mono fun i hi => List.mem_append_right _ hi)) .inr)) _ fun a _ o ho => ho, h2, h3⟩
end

/-- the turns: the results that are kept -/
def lcO (n : Nat) (tm : TM) (tt te : M Z) (ρ : Env) : List D → Option Pen → R (List Z)
  | [], p => .ok [] p
  | d :: ds, p => match tm d ρ with
    | none => .bad
    | some ρ1 => match tt ρ1 p with
      | .ok t p1 => match truth t.d with
        | none => .bad
        | some false => lcO n tm tt te ρ ds p1
        | some true => match te ρ1 p1 with
          | .ok y p2 => if n = 0 ∨ y.f = n then (match lcO n tm tt te ρ ds p2 with | .ok zs p3 => .ok (y :: zs) p3 | _ => .bad) else .bad
          | _ => .bad
      | _ => .bad
def lcC (zs : List Z) (fr : List Nat) : List Nat := zs.flatMap (·.lo) ++ fr
def eLc (n : Nat) (vs : List Nat) (m : IM) (tm : TM) (tt te : M Z) : M Z := fun ρ p => (m ρ p).bind fun x p1 => if wOk (frz x.2 ρ) vs then
  (match lcO n tm tt te (wipeE (frz x.2 ρ) vs) x.1 p1 with | .ok zs p2 => if zs.length ≤ LIM then .ok ⟨.lst (zs.map (·.d)), [], lcC zs x.2, n + 1⟩ p2 else .bad | _ => .bad) else .bad
abbrev WxF : WX := fun _ _ _ _ => False
abbrev DTs (X : Cx) (T : Tx) (Wx : WX) (es : List Expr) (m : M Z) : Prop := PTs X es (upT T Wx m)
section
variable {X : Cx} {T : Tx} {Wx : WX}
theorem dts_nil : DTs X T Wx [] (eC (.bl true)) := pts_nil.mono fun σ H Q h => by
  obtain ⟨H0, Mo, fp, ρ, p, s, h⟩ := h
  obtain ⟨b, h1, h2⟩ := h (.bl true) H (.refl H) s.pen (.scalar fun _ => rfl)
  have h1 : some true = some b := h1
  cases h1
  exact h2
theorem dts_one {c : Expr} {m : M Z} (h : DT X T Wx c m) : DTs X T Wx [c] m := pts_one h
theorem lcO_cons {n : Nat} {tm : TM} {tt te : M Z} {ρ : Env} {d : D} {ds : List D} {p p3 : Option Pen} {rs : List Z} (e : lcO n tm tt te ρ (d :: ds) p = .ok rs p3) :
    ∃ ρ1 t p1 b, tm d ρ = some ρ1 ∧ tt ρ1 p = .ok t p1 ∧ truth t.d = some b ∧
      if b = true then ∃ y p2 zs, te ρ1 p1 = .ok y p2 ∧ (n = 0 ∨ y.f = n) ∧ lcO n tm tt te ρ ds p2 = .ok zs p3 ∧ rs = y :: zs else lcO n tm tt te ρ ds p1 = .ok rs p3 := by
  unfold lcO at e
  cases e1 : tm d ρ with
  | none =>
    rw [e1] at e
    cases e
  | some ρ1 =>
    rw [e1] at e
    dsimp only at e
    cases e2 : tt ρ1 p with
    | bad =>
      rw [e2] at e
      cases e
    | exc c fs p1 =>
      rw [e2] at e
      cases e
    | ok t p1 =>
      rw [e2] at e
      dsimp only at e
      cases e3 : truth t.d with
      | none =>
        rw [e3] at e
        cases e
      | some b =>
        rw [e3] at e
        refine ⟨ρ1, t, p1, b, rfl, e2, e3, ?_⟩
        cases b with
        | false =>
          rw [if_neg Bool.false_ne_true]
          exact e
        | true =>
          rw [if_pos rfl]
          dsimp only at e
          cases e4 : te ρ1 p1 with
          | bad =>
            rw [e4] at e
            cases e
          | exc c fs p1 =>
            rw [e4] at e
            cases e
          | ok y p2 =>
            rw [e4] at e
            dsimp only at e
            by_cases q : n = 0 ∨ y.f = n
            · rw [if_pos q] at e
              cases e5 : lcO n tm tt te ρ ds p2 with
              | bad =>
                rw [e5] at e
                cases e
              | exc c fs p1 =>
                rw [e5] at e
                cases e
              | ok zs p3' =>
                rw [e5] at e
                cases e
                exact ⟨y, p2, zs, rfl, q, e5, rfl⟩
            · rw [if_neg q] at e
              cases e
end
theorem moU_app {Mo : Addr → Prop} {as bs : List Addr} : MoU (MoU Mo as) bs = MoU Mo (as ++ bs) := funext fun a => propext ⟨fun h => by
  rcases h with (h | h) | h
  · exact .inl h
  · exact .inr (List.mem_append_left _ h)
  · exact .inr (List.mem_append_right _ h), fun h => by
  rcases h with h | h
  · exact .inl (.inl h)
  · rcases List.mem_append.mp h with h | h
    · exact .inl (.inr h)
    · exact .inr h⟩
theorem wipe_in {σ : L2.St} {j : Nat} : ∀ {vs : List Nat}, j ∈ vs → (wipe σ vs)[j]? = if j < σ.length then some none else none
  | [], h => absurd h (by simp)
  | v :: vs, h => by
    unfold wipe
    by_cases q : j = v
    · subst q
      by_cases l : j < σ.length
      · rw [if_pos l, List.getElem?_set_self (by rw [wipe_length]; exact l)]
      · rw [if_neg l, List.getElem?_eq_none (by rw [List.length_set, wipe_length]; omega)]
    · rw [List.getElem?_set_ne fun e => q e.symm]
      exact wipe_in ((List.mem_cons.mp h).elim (fun z => absurd z q) id)
theorem wipe_eq {σ σ' : L2.St} {vs : List Nat} (l : σ'.length = (wipe σ vs).length) (h : ∀ j, j ∉ vs → σ'[j]? = (wipe σ vs)[j]?) : wipe σ' vs = wipe σ vs := by
  refine List.ext_getElem? fun j => ?_
  by_cases q : j ∈ vs
  · rw [wipe_in q, wipe_in q, l, wipe_length]
  · rw [wipe_out q]
    exact h j q
/-- at each turn of a list comprehension -/
def LInv (T : Tx) (B : Hp) (Mo : Addr → Prop) (fp fpw : Nat → List Addr) (ρw : Env) (σw : L2.St) (b : List Nat) (n : Nat) (L : Addr) (H1 : Hp) (run : List D → Option Pen → R (List Z)) (zs : List Z) (pz : Option Pen) (ds : List D) (H2 : Hp) : Prop :=
  ∃ done rest as acc p2, Gr T H1 H2 ∧ SRep T B (MoU Mo (L :: as)) fpw ρw p2 σw H2 ∧ H2 L = some (.lst acc) ∧
    OwnRs (OwnR T (hid (fun a => Hd Mo fp b a ∨ a ∈ L :: as) H2) H2 n) (done.map (·.d)) acc as ∧ (L :: as).Nodup ∧ (∀ a ∈ as, H1 a = none) ∧ run ds p2 = .ok rest pz ∧ zs = done ++ rest
section
variable {T : Tx} {Wx : WX} {m : IM} {tm : TM} {tt te : M Z} {n : Nat} {vs js : List Nat}
theorem up_lc {σ : L2.St} {H : Hp} {Q : VK} (hjs : ∀ j ∈ js, j ∈ vs) (h : upE T Wx (eLc n vs m tm tt te) σ H Q) : tLc (upI T Wx m) (upG T js tm) (upT T WxF tt) (upE T WxF te) vs σ H Q := by
  obtain ⟨H0, Mo, fp, ρ, p, s, h⟩ := h
  refine ⟨H0, Mo, fp, ρ, p, s, ?_⟩
  unfold eLc at h
  cases e : m ρ p with
  | bad =>
    rw [e] at h
    exact h.elim
  | exc c fs p1 =>
    rw [e] at h
    exact h
  | ok x p1 =>
  rw [e] at h
  intro J H1 g1 x1 j L nL
  have h : EPost T Wx H0 Mo fp H H (if wOk (DL.frz x.2 ρ) vs then (match lcO n tm tt te (wipeE (DL.frz x.2 ρ) vs) x.1 p1 with | .ok zs p2 => if zs.length ≤ LIM then .ok ⟨.lst (zs.map (·.d)), [], lcC zs x.2, n + 1⟩ p2 else .bad | _ => .bad) else .bad) fun _ _ v H' => Q v H' := h
  by_cases hw : wOk (DL.frz x.2 ρ) vs = true
  case neg =>
    rw [if_neg hw] at h
    exact h.elim
  rw [if_pos hw] at h
  have s0 := s.grows g1 x1
  have sz := s0.frz x.2
  have s1 := sz.base
  have hB : Sub (bs T (frzFp x.2 fp) H1) H1 := hid_sub
  have fw := s1.wOk hw
  have s1 := s1.wipe fw
  generalize bs T (frzFp x.2 fp) H1 = B at *
  generalize eρ : wipeE (DL.frz x.2 ρ) vs = ρw at *
  cases el : lcO n tm tt te ρw x.1 p1 with
  | bad =>
    rw [el] at h
    exact h.elim
  | exc c fs p2 =>
    rw [el] at h
    exact h.elim
  | ok zs pz =>
  rw [el] at h
  dsimp only at h
  by_cases hl : zs.length ≤ LIM
  case neg =>
    rw [if_neg hl] at h
    exact h.elim
  rw [if_pos hl] at h
  generalize eb : lcC zs x.2 = b at *
  have hb1 : ∀ y ∈ zs, ∀ i ∈ y.lo, i ∈ b := fun y hy i hi => by
    rw [← eb]
    exact List.mem_append_left _ (List.mem_flatMap.mpr ⟨y, hy, hi⟩)
  have hb2 : ∀ i ∈ x.2, i ∈ b := fun i hi => by
    rw [← eb]
    exact List.mem_append_right _ hi
  have Bn : ∀ a, H1 a = none → B a = none := fun a n => by
    cases e : B a with
    | none => rfl
    | some o =>
      rw [hB a o e] at n
      cases n
  have wL : ¬ T.sp L := fun z => s0.nw L z nL
  have wcL : T.W ≠ none → T.Wc ≠ L := fun z q => by
    have x := s0.pen.pen
    unfold Pen0 at x
    cases hW : T.W with
    | none => exact z hW
    | some b =>
      rw [hW] at x
      cases p1 with
      | none => exact x.elim
      | some pp =>
        obtain ⟨_, h2, _⟩ := x
        rw [q, nL] at h2
        cases h2
  have hdL : ∀ {b : List Nat} {a : Addr}, H1 a = none → ¬ Hd Mo fp b a := fun {b a} n => s0.ctx.hd n
  refine ⟨fun i mm H2 => mm = x.1.length - i ∧ LInv T B Mo fp (frzFp x.2 fp) ρw (wipe σ vs) b n L H1 (lcO n tm tt te ρw) zs pz (x.1.drop i) H2,
    ⟨_, rfl, [], zs, [], [], p1, .of (.new nL), (s1.hide (as := [L]) (.of (.new nL)) (x1.sub (.new nL)) (fun a ha => by rw [List.mem_singleton.mp ha]; exact nL) fun a ha => by rw [List.mem_singleton.mp ha, upd_same]; exact ⟨_, rfl, trivial⟩), upd_same, ⟨rfl, rfl⟩, by simp, fun a ha => absurd ha (by simp), el, rfl⟩,
    fun i mm H2 ⟨em, done, rest, as, acc, p2, gr, s2, hL, ow, nd, nw, ec, ez⟩ => ?_⟩
  by_cases q : i < x.1.length
  · refine .inr ⟨j.go i H2 s2.grow q, LInv T B Mo fp (frzFp x.2 fp) ρw (wipe σ vs) b n L H1 (lcO n tm tt te ρw) zs pz (x.1.drop (i + 1)), fun H3 h => ⟨_, by omega, rfl, h⟩, fun y H3 hy => ?_⟩
    obtain ⟨sub, k⟩ := j.yld i H2 y H3 s2.grow hy
    have ed : x.1[i]? = some x.1[i] := List.getElem?_eq_getElem q
    rw [List.drop_eq_getElem_cons q] at ec
    generalize x.1[i] = d at ed ec
    have s3 := s2.grows (.of sub) (s2.pen.sub sub)
    have rp := k d ed (hid (Hd (MoU Mo (L :: as)) (frzFp x.2 fp) []) H3) (fun a o ha => by
      obtain ⟨k1, k2⟩ := hid_some ha
      refine s2.see sub a o ?_
      rw [hid_out]
      · exact k1
      · intro z
        rcases z with z | z
        · exact k2 z
        · rcases List.mem_cons.mp z with z | z
          · rw [z, Bn L nL] at k1
            cases k1
          · rw [Bn a (nw a z)] at k1
            cases k1) fun a o n e => by
      rw [hid_out]
      · exact e
      · intro z
        exact s2.hdThere z n
    obtain ⟨ρ1, t, p3, bt, e1, e2, e3, e4⟩ := lcO_cons ec
    refine ⟨B, MoU Mo (L :: as), frzFp x.2 fp, ρw, p2, d, ρ1, s3, rp, e1, fun fp' σ' s4 sf ll uu => ⟨?_, B, MoU Mo (L :: as), fp', ρ1, p2, s4, ?_⟩⟩
    · exact wipe_eq ll fun j hj => (uu j fun z => hj (hjs j z)).2
    · rw [e2]
      intro vt H4 g4 x4 _
      refine ⟨bt, e3, ?_⟩
      have s5 := s4.grows g4 x4
      have g24 : Gr T H2 H4 := (Gr.of sub).trans g4
      show if bt = true then _ else _
      cases bt with
      | false =>
        rw [if_neg Bool.false_ne_true] at e4 ⊢
        refine ⟨done, rest, as, acc, p3, gr.trans g24, s2.grows g24 x4, g24 L _ hL wL, ow.imp fun d v bs hbs r => r.step (hid_step (fun a o e nn => g24 a o e fun z => nn ?_) fun a z => .inl z) n fun a ha o e => g24 a o e fun z => s0.nw a z (nw a (hbs a ha)), nd, nw, e4, ez⟩
        exact (s2.pen.mo z).1.elim (fun z => .inl (.inl z)) .inr
      | true =>
        rw [if_pos rfl] at e4 ⊢
        obtain ⟨y', p4, rs, f1, f2, f3, f4⟩ := e4
        refine ⟨B, MoU Mo (L :: as), fp', ρ1, p3, s5, ?_⟩
        rw [f1]
        intro w H5 g5 x5 zr
        have g25 : Gr T H2 H5 := g24.trans g5
        have hL5 := g25 L _ hL wL
        obtain ⟨as2, o1, o2, o3⟩ := zr.ownN f2
        have o3' : ∀ a ∈ as2, H2 a = none := fun a ha => g24.back (o3 a ha) fun z => s5.nw a z (o3 a ha)
        have o3'' : ∀ a ∈ as2, H1 a = none := fun a ha => gr.back (o3' a ha) fun z => s2.nw a z (o3' a ha)
        have dj : ∀ a ∈ as2, a ∉ L :: as := fun a ha z => s2.mo a (.inr z) (o3' a ha)
        have yz : y' ∈ zs := by
          rw [ez, f4]
          exact List.mem_append_right _ List.mem_cons_self
        have hsz : (List.length acc) < sizeLine := by
          have l1 : acc.length = done.length := by rw [← ow.len, List.length_map]
          have l2 : zs.length = done.length + (rs.length + 1) := by rw [ez, f4, List.length_append, List.length_cons]
          exact lim_lt (by rw [l1]; omega)
        have gL : Gr T H1 (upd H5 L (.lst (acc ++ [w]))) := fun a o e nw' => by
          rw [upd_ne fun z => by rw [z, nL] at e; cases e]
          exact (gr.trans g25) a o e nw'
        have s6 : SRep T B (MoU Mo (L :: (as ++ as2))) (frzFp x.2 fp) ρw p4 (wipe σ vs) H5 := by
          have := s2.hide g25 x5 o3' fun a ha => o1.ld n a ha
          rw [moU_app] at this
          exact this
        refine ⟨acc, hL5, hsz, done ++ [y'], rs, as ++ as2, acc ++ [w], p4, gL, s6.poke hL5 trivial (.inr List.mem_cons_self) (Bn L nL) wL wcL, upd_same, ?_, ?_, ?_, f3, by rw [ez, f4, List.append_assoc]; rfl⟩
        · rw [List.map_append]
          refine OwnRs.app (ow.imp fun d v bs hbs r => r.step (hid_step (fun a o e nn => ?_) fun a z => ?_) n fun a ha o e => ?_) ⟨w, [], as2, [], rfl, by simp, o1.step (hid_step (fun a o e nn => ?_) fun a z => ?_) n fun a ha o e => ?_, rfl, rfl⟩
          · rw [upd_ne fun z => nn (.inr (by rw [z]; exact List.mem_cons_self))]
            exact g25 a o e fun z => nn ((s2.pen.mo z).1.elim (fun z => .inl (.inl z)) .inr)
          · rcases z with z | z
            · exact .inl (.inl z)
            · rcases List.mem_cons.mp z with z | z
              · exact .inl (.inr (by rw [z]; exact List.mem_cons_self))
              · rcases List.mem_append.mp z with z | z
                · exact .inl (.inr (List.mem_cons_of_mem _ z))
                · exact .inr (o3' a z)
          · rw [upd_ne fun z => (List.nodup_cons.mp nd).1 (by rw [← z]; exact hbs a ha)]
            exact g25 a o e fun z => s0.nw a z (nw a (hbs a ha))
          · rw [upd_ne fun z => nn (.inl (.inl (.inr (by rw [z]; exact List.mem_cons_self))))]
            exact e
          · refine .inl ?_
            rcases z with (z | ⟨i', k1, k2⟩) | z
            · exact .inl (.inl (.inl z))
            · refine .inl (.inr ⟨i', fun z => k1 (hb1 y' yz i' z), ?_⟩)
              have hf := frzFp_of x.2 (fun z => k1 (hb2 i' z)) k2
              by_cases hj : i' ∈ js
              · rw [fw i' (hjs i' hj)] at hf
                cases hf
              · rw [(uu i' hj).1]
                exact hf
            · rcases List.mem_cons.mp z with z | z
              · exact .inl (.inl (.inr (by rw [z]; exact List.mem_cons_self)))
              · rcases List.mem_append.mp z with z | z
                · exact .inl (.inl (.inr (List.mem_cons_of_mem _ z)))
                · exact .inr z
          · rw [upd_ne fun z => dj a ha (by rw [z]; exact List.mem_cons_self)]
            exact e
        · have n1 := List.nodup_cons.mp nd
          refine List.nodup_cons.mpr ⟨fun z => ?_, List.nodup_append.mpr ⟨n1.2, o2, fun a ha b hb e => dj b hb (by rw [← e]; exact List.mem_cons_of_mem _ ha)⟩⟩
          rcases List.mem_append.mp z with z | z
          · exact n1.1 z
          · exact dj L z List.mem_cons_self
        · intro a ha
          rcases List.mem_append.mp ha with z | z
          · exact nw a z
          · exact o3'' a z
  · refine .inl ⟨j.stop i H2 s2.grow (by omega), ?_⟩
    rw [List.drop_eq_nil_of_le (by omega)] at ec
    cases ec
    rw [List.append_nil] at ez
    subst ez
    have nL2 : ∀ a ∈ L :: as, H1 a = none := fun a ha => by
      rcases List.mem_cons.mp ha with z | z
      · rw [z]
        exact nL
      · exact nw a z
    have nh : ∀ {b : List Nat} {a : Addr}, a ∈ L :: as → ¬ Hd Mo fp b a := fun {b a} ha => hdL (nL2 a ha)
    refine h _ H2 (g1.trans gr) (s2.pen.less x1 fun a h => .inl h) ⟨⟨L, acc, rfl, ?_, ?_⟩, fun _ => ⟨L :: as, ⟨L, acc, as, rfl, rfl, hL, ow⟩, nd, fun a ha => g1.back (nL2 a ha) fun z => s0.nw a z (nL2 a ha)⟩⟩
    · rw [hid_out (nh List.mem_cons_self)]
      exact hL
    · refine ow.rps fun d v bs hbs r => r.rp (hid_mono fun a z => .inl (.inl z)) n fun a ha o e => ?_
      rw [hid_out (nh (List.mem_cons_of_mem _ (hbs a ha)))]
      exact e
end
section
variable {X : Cx} {T : Tx} {Wx : WX} {elt tg it : Expr} {ifs : List Expr} {scope : Scope} {own : List (Str × Nat)} {pos : Pos} {m : IM} {tm : TM} {tt te : M Z} {js : List Nat}
theorem de_lc (n : Nat) (hc : X.calm = true) (hN : X.N.Nodup) (hi : DI X T Wx tg it m) (ok : BlkOk X.N X.env.scope scope own) (hg : ∀ (s : Shared) (H : Hp) (C : Addr) (cl : List (Str × Addr)) (fp : List Addr), DG (X.blk s H scope (compEnvC scope cl C X.env) fp) T tg js tm)
    (ht : ∀ (s : Shared) (H : Hp) (C : Addr) (cl : List (Str × Addr)) (fp : List Addr), DTs (X.blk s H scope (compEnvC scope cl C X.env) fp) T WxF ifs tt)
    (he : ∀ (s : Shared) (H : Hp) (C : Addr) (cl : List (Str × Addr)) (fp : List Addr), DE (X.blk s H scope (compEnvC scope cl C X.env) fp) T WxF elt te)
    (hjs : ∀ j ∈ js, j ∈ own.map (·.2) := by decide) (hs : ∀ x, foldedSetIterable it X.env x = pure x := by intro _; rfl) : DE X T Wx (.ListComp elt [⟨tg, it, ifs, 0⟩] scope pos) (eLc n (own.map (·.2)) m tm tt te) :=
  (pe_lc hc hN hi ok hg ht he hs).mono fun _ _ _ h => up_lc hjs h
theorem ds_setLc {i : Nat} {y : Str} {py spos : Pos} (n : Nat) (hc : X.calm = true) (hN : X.N.Nodup) (hy : X.N[i]? = some y) (hyl : X.env.scope.names.lookup y = some .local)
    (hsw : swapsWith (.ListComp elt [⟨tg, it, ifs, 0⟩] scope pos) (some (.Name y py)) spos.line X.env = pure true)
    (hi : DI X T Wx tg it m) (ok : BlkOk X.N X.env.scope scope own) (hg : ∀ (s : Shared) (H : Hp) (C : Addr) (cl : List (Str × Addr)) (fp : List Addr), DG (X.blk s H scope (compEnvC scope cl C X.env) fp) T tg js tm)
    (ht : ∀ (s : Shared) (H : Hp) (C : Addr) (cl : List (Str × Addr)) (fp : List Addr), DTs (X.blk s H scope (compEnvC scope cl C X.env) fp) T WxF ifs tt)
    (he : ∀ (s : Shared) (H : Hp) (C : Addr) (cl : List (Str × Addr)) (fp : List Addr), DE (X.blk s H scope (compEnvC scope cl C X.env) fp) T WxF elt te)
    (hjs : ∀ j ∈ js, j ∈ own.map (·.2) := by decide) (hs : ∀ x, foldedSetIterable it X.env x = pure x := by intro _; rfl) : DS X T Wx (.Assign [.Name y py] (.ListComp elt [⟨tg, it, ifs, 0⟩] scope pos) spos) (sAsg i (eLc n (own.map (·.2)) m tm tt te)) :=
  (ps_setLc hc hN hy hyl hsw hi ok hg ht he hs).mono fun D σ H h => by
    have h := up_asg h
    exact up_lc hjs h
end
end DL
set_option Elab.async false
set_option linter.all false
set_option maxRecDepth 100000
set_option maxHeartbeats 2000000
/-! # The data layer, part 8: places, changes in place -/
namespace DL
open PySem PySem.Spec PyProof.Rows L2

/-! ### the tree at a path -/
def treeAt : List Nat → D → Option D
  | [], d => some d
  | k :: ks, .lst ds => (ds[k]?).bind (treeAt ks)
  | k :: ks, .dic _ es => (es[k]?).bind (treeAt ks)
  | _ :: _, _ => none
def setTree : List Nat → D → D → D
  | [], _, c => c
  | k :: ks, .lst ds, c => .lst (match ds[k]? with | some d => ds.set k (setTree ks d c) | none => ds)
  | k :: ks, .dic qs es, c => .dic qs (match es[k]? with | some d => es.set k (setTree ks d c) | none => es)
  | _ :: _, d, _ => d
/-- the value at a path, through things in S -/
def PlV (S : Addr → Prop) (H : Hp) : List Nat → V → V → Prop
  | [], v, w => w = v
  | k :: ks, v, w => ∃ a u, v = .ref a ∧ S a ∧ ((∃ vs, H a = some (.lst vs) ∧ vs[k]? = some u) ∨ ∃ kvs, H a = some (.dK kvs) ∧ (kvs.map fun kv => kv.2)[k]? = some u) ∧ PlV S H ks u w
theorem PlV.grow {S S' : Addr → Prop} {H H' : Hp} (g : ∀ a o, S a → H a = some o → H' a = some o) (gs : ∀ a, S a → S' a) : ∀ {ks : List Nat} {v w : V}, PlV S H ks v w → PlV S' H' ks v w
  | [], _, _, h => h
  | k :: ks, v, w, h => by
    obtain ⟨a, u, h1, hs, h2, h3⟩ := h
    refine ⟨a, u, h1, gs a hs, ?_, h3.grow g gs⟩
    rcases h2 with ⟨vs, e, h2⟩ | ⟨kvs, e, h2⟩
    · exact .inl ⟨vs, g a _ hs e, h2⟩
    · exact .inr ⟨kvs, g a _ hs e, h2⟩
theorem PlV.det {S S' : Addr → Prop} {H : Hp} : ∀ {ks : List Nat} {v w w' : V}, PlV S H ks v w → PlV S' H ks v w' → w = w'
  | [], _, _, _, h, h' => h.trans h'.symm
  | k :: ks, v, w, w', h, h' => by
    obtain ⟨a, u, rfl, _, h2, h3⟩ := h
    obtain ⟨a', u', e, _, h2', h3'⟩ := h'
    cases e
    have : u = u' := by
      rcases h2 with ⟨vs, e, h2⟩ | ⟨kvs, e, h2⟩
      · rcases h2' with ⟨vs', e', h2'⟩ | ⟨kvs, e', h2'⟩
        · rw [e] at e'
          cases e'
          rw [h2] at h2'
          exact Option.some.inj h2'
        · rw [e] at e'
          cases e'
      · rcases h2' with ⟨vs', e', h2'⟩ | ⟨kvs, e', h2'⟩
        · rw [e] at e'
          cases e'
        · rw [e] at e'
          cases e'
          rw [h2] at h2'
          exact Option.some.inj h2'
    subst this
    exact h3.det h3'
theorem PlV.snoc {S : Addr → Prop} {H : Hp} : ∀ {ks : List Nat} {v : V} {a : Addr} {k : Nat} {w : V}, PlV S H ks v (.ref a) → S a → ((∃ vs, H a = some (.lst vs) ∧ vs[k]? = some w) ∨ ∃ kvs, H a = some (.dK kvs) ∧ (kvs.map fun kv => kv.2)[k]? = some w) → PlV S H (ks ++ [k]) v w
  | [], v, a, k, w, h, hs, g => ⟨a, w, h.symm, hs, g, rfl⟩
  | i :: ks, v, a, k, w, h, hs, g => by
    obtain ⟨b, u, h1, hb, h2, h3⟩ := h
    exact ⟨b, u, h1, hb, h2, h3.snoc hs g⟩
section
variable {T : Tx} {F H : Hp}
/-- one of the trees side by side -/
theorem OwnRs.at_ {R : D → V → List Addr → Prop} : ∀ {ds : List D} {vs : List V} {as : List Addr} {k : Nat} {d : D}, OwnRs R ds vs as → ds[k]? = some d →
    ∃ u l m r, vs[k]? = some u ∧ as = l ++ m ++ r ∧ R d u m ∧ ∀ (R' : D → V → List Addr → Prop) (d' : D) (m' : List Addr), (∀ d v bs, (∀ b ∈ bs, b ∈ l ++ r) → R d v bs → R' d v bs) → R' d' u m' → OwnRs R' (ds.set k d') vs (l ++ m' ++ r)
  | [], _, _, k, d, _, e => by simp at e
  | d0 :: ds, vs, as, 0, d, h, e => by
    obtain ⟨v, w, a1, a2, rfl, rfl, h3, h4⟩ := h
    have e : d0 = d := by simpa using e
    subst e
    refine ⟨v, [], a1, a2, rfl, by simp, h3, fun R' d' m' k r => ⟨v, w, m', a2, rfl, by simp, r, h4.imp fun d v bs hb q => k d v bs (fun b z => by simpa using hb b z) q⟩⟩
  | d0 :: ds, vs, as, i + 1, d, h, e => by
    obtain ⟨v, w, a1, a2, rfl, rfl, h3, h4⟩ := h
    obtain ⟨u, l, m, r, k1, k2, k3, k4⟩ := h4.at_ (k := i) (d := d) (by simpa using e)
    refine ⟨u, a1 ++ l, m, r, by simpa using k1, by rw [k2]; simp, k3, fun R' d' m' k q => ⟨v, w, a1, l ++ m' ++ r, rfl, by simp, k _ _ _ (fun b hb => by simp [hb]) h3, k4 R' d' m' (fun d v bs hb z => k d v bs (fun b z => by
      have := hb b z
      simp only [List.mem_append] at this ⊢
      rcases this with z | z
      · exact .inl (.inr z)
      · exact .inr z) z) q⟩⟩
/-- the part at a path, and how to put another there -/
theorem OwnR.focus : ∀ (ks : List Nat) {n : Nat} {d : D} {v : V} {as : List Addr} {c : D}, OwnR T F H n d v as → treeAt ks d = some c → ks.length ≤ n →
    ∃ w l m r, PlV (· ∈ as) H ks v w ∧ as = l ++ m ++ r ∧ OwnR T F H (n - ks.length) c w m ∧
      ∀ (F' H' : Hp) (c' : D) (m' : List Addr), Sub F F' → (∀ x, x ∈ l ++ r → ∀ o, H x = some o → H' x = some o) → OwnR T F' H' (n - ks.length) c' w m' → OwnR T F' H' n (setTree ks d c') v (l ++ m' ++ r)
  | [], n, d, v, as, c, h, e, _ => by
    cases e
    exact ⟨v, [], as, [], rfl, by simp, h, fun F' H' c' m' _ _ q => by
      rw [List.append_nil]
      exact q⟩
  | k :: ks, n, d, v, as, c, h, e, le => by
    cases n with
    | zero => exact absurd le (by simp)
    | succ n =>
      have hn : n + 1 - (k :: ks).length = n - ks.length := by rw [List.length_cons]; omega
      cases d with
      | lst ds =>
        obtain ⟨a, vs, bs, rfl, rfl, h3, h4⟩ := h
        cases ed : ds[k]? with
        | none =>
          simp [treeAt, ed] at e
        | some d0 =>
          have e : treeAt ks d0 = some c := by simpa [treeAt, ed] using e
          obtain ⟨u, l, m, r, k1, rfl, k3, k4⟩ := h4.at_ ed
          obtain ⟨w, l2, m2, r2, p1, rfl, p3, p4⟩ := OwnR.focus ks k3 e (by rw [List.length_cons] at le; omega)
          rw [hn]
          refine ⟨w, a :: (l ++ l2), m2, r2 ++ r, ⟨a, u, rfl, List.mem_cons_self, .inl ⟨vs, h3, k1⟩, p1.grow (fun _ _ _ h => h) fun x hx => by simp only [List.mem_cons, List.mem_append] at hx ⊢; exact .inr (.inl (.inr hx))⟩, by simp, p3, fun F' H' c' m' sf kp q => ?_⟩
          have kp' : ∀ x, x ∈ a :: (l ++ l2 ++ (r2 ++ r)) → ∀ o, H x = some o → H' x = some o := fun x hx => kp x (by simpa using hx)
          have e2 : setTree (k :: ks) (.lst ds) c' = .lst (ds.set k (setTree ks d0 c')) := by simp [setTree, ed]
          rw [e2]
          refine ⟨a, vs, (l ++ (l2 ++ m' ++ r2) ++ r), rfl, by simp, kp' a (by simp) _ h3, k4 _ _ _ (fun d v bs hb z => z.step sf n fun b hb' o ho => kp' b ?_ o ho) (p4 F' H' c' m' sf (fun x hx o ho => kp' x ?_ o ho) q)⟩
          · have := hb b hb'
            simp only [List.mem_append, List.mem_cons] at this ⊢
            rcases this with z | z
            · exact .inr (.inl (.inl z))
            · exact .inr (.inr (.inr z))
          · simp only [List.mem_append, List.mem_cons] at hx ⊢
            rcases hx with z | z
            · exact .inr (.inl (.inr z))
            · exact .inr (.inr (.inl z))
      | dic qs es =>
        obtain ⟨a, kvs, bs, rfl, rfl, h3, hk, h4⟩ := h
        cases ed : es[k]? with
        | none =>
          simp [treeAt, ed] at e
        | some d0 =>
          have e : treeAt ks d0 = some c := by simpa [treeAt, ed] using e
          obtain ⟨u, l, m, r, k1, rfl, k3, k4⟩ := h4.at_ ed
          obtain ⟨w, l2, m2, r2, p1, rfl, p3, p4⟩ := OwnR.focus ks k3 e (by rw [List.length_cons] at le; omega)
          rw [hn]
          refine ⟨w, a :: (l ++ l2), m2, r2 ++ r, ⟨a, u, rfl, List.mem_cons_self, .inr ⟨kvs, h3, k1⟩, p1.grow (fun _ _ _ h => h) fun x hx => by simp only [List.mem_cons, List.mem_append] at hx ⊢; exact .inr (.inl (.inr hx))⟩, by simp, p3, fun F' H' c' m' sf kp q => ?_⟩
          have kp' : ∀ x, x ∈ a :: (l ++ l2 ++ (r2 ++ r)) → ∀ o, H x = some o → H' x = some o := fun x hx => kp x (by simpa using hx)
          have e2 : setTree (k :: ks) (.dic qs es) c' = .dic qs (es.set k (setTree ks d0 c')) := by simp [setTree, ed]
          rw [e2]
          refine ⟨a, kvs, (l ++ (l2 ++ m' ++ r2) ++ r), rfl, by simp, kp' a (by simp) _ h3, Rps.sub sf _ hk, k4 _ _ _ (fun d v bs hb z => z.step sf n fun b hb' o ho => kp' b ?_ o ho) (p4 F' H' c' m' sf (fun x hx o ho => kp' x ?_ o ho) q)⟩
          · have := hb b hb'
            simp only [List.mem_append, List.mem_cons] at this ⊢
            rcases this with z | z
            · exact .inr (.inl (.inl z))
            · exact .inr (.inr (.inr z))
          · simp only [List.mem_append, List.mem_cons] at hx ⊢
            rcases hx with z | z
            · exact .inr (.inl (.inr z))
            · exact .inr (.inr (.inl z))
      | _ => cases e
end

/-! ### a change in place -/
/-- what is frozen where a result is put at the level n -/
def Z.frL (n : Nat) (z : Z) : List Nat := if lf z.d = true then [] else if n = 0 then z.b ++ z.c else z.c
def Z.okL (n : Nat) (z : Z) : Bool := n == 0 || lf z.d || z.f == n
section
variable {T : Tx} {H0 H H' Hs : Hp} {Mo Mo' : Addr → Prop} {fp : Nat → List Addr} {ρ : Env} {p p' : Option Pen} {σ : L2.St} {v : V} {d : D} {z : Z} {as : List Addr}
theorem OwnR.lf {F : Hp} (n : Nat) (l : lf d = true) (r : Rp T F d v) : OwnR T F H n d v [] := by
  cases n with
  | zero => exact ⟨rfl, r⟩
  | succ n => cases d <;> first | exact ⟨rfl, r⟩ | cases l
theorem ZRep.ownL (x : ZRep T Mo fp Hs z v H) (ld : ∀ i a, a ∈ fp i → ∃ o, H a = some o ∧ isLD o) {n : Nat} (h : z.okL n = true) : ∃ as, OwnR T (hid (fun a => Hd Mo fp (z.frL n) a ∨ a ∈ as) H) H n z.d v as ∧ as.Nodup ∧ ∀ a ∈ as, Hs a = none := by
  unfold Z.frL
  by_cases l : lf z.d = true
  · rw [if_pos l]
    refine ⟨[], .lf n l ?_, List.nodup_nil, fun a h => absurd h (by simp)⟩
    exact Rp.lf (fun a o e h n => ld_k (M := fun a => a ∈ ([] : List Addr)) ld a o e h fun z => n (z.elim id fun q => absurd q (by simp))) z.d l (x.all (b := z.b ++ z.c) fun i hi => hi)
  · rw [if_neg l]
    by_cases q : n = 0
    · subst q
      rw [if_pos rfl]
      obtain ⟨as, h1, h2, h3⟩ := x.ownN (.inl rfl)
      exact ⟨as, h1, h2, h3⟩
    · rw [if_neg q]
      have e : z.f = n := by
        unfold Z.okL at h
        simp only [Bool.or_eq_true, beq_iff_eq] at h
        rcases h with (h | h) | h
        · exact absurd h q
        · exact absurd h l
        · exact h
      obtain ⟨as, h1, h2, h3⟩ := x.own (by rw [e]; exact q)
      rw [e] at h1
      exact ⟨as, h1, h2, h3⟩
theorem PenRep.set (x : PenRep T Mo p H) {a : Addr} {o u : HO} (h : H a = some u) (ld : isLD u) (n : ¬ Mo a) : PenRep T Mo p (upd H a o) := by
  refine x.change h ld (fun z => n (x.mo z).1) fun z q => ?_
  have x := x.pen
  unfold Pen0 at x
  cases hW : T.W with
  | none => exact z hW
  | some b =>
    rw [hW] at x
    cases p with
    | none => exact x.elim
    | some pp =>
      obtain ⟨_, _, _, h4, _⟩ := x
      rw [q] at h4
      exact n h4
/-- the list or dict of the slot i at the path ks is changed -/
theorem SRep.mut {i : Nat} {n : Nat} {ks : List Nat} {c : D} (s : SRep T H0 (MoU Mo as) fp ρ p σ H) (hp : PenRep T Mo p H) (e : ρ[i]? = some (some ⟨d, n⟩)) (ht : treeAt ks d = some c) (hn : ks.length < n) (nd : as.Nodup) (nw : ∀ a ∈ as, H0 a = none ∧ ¬ Mo a) :
    ∃ v w m, σ[i]? = some (some v) ∧ PlV (· ∈ fp i) H ks v w ∧ OwnR T (hid (Hd (MoU Mo as) fp []) H) H (n - ks.length) c w m ∧ (∀ a ∈ m, a ∈ fp i) ∧ m.Nodup ∧
      ∀ a o c' m', a ∈ m → m'.Nodup → (∀ x ∈ m', x ∈ m ∨ x ∈ as) → (∀ F', Sub (hid (Hd (MoU Mo as) fp []) H) F' → OwnR T F' (upd H a o) (n - ks.length) c' w m') →
        ∃ fp', SRep T H0 Mo fp' (ρ.set i (some ⟨setTree ks d c', n⟩)) p σ (upd H a o) ∧ ∀ j b, b ∈ fp' j → b ∈ fp j ∨ b ∈ as := by
  obtain ⟨v, e1, r⟩ := s.cell i _ e
  obtain ⟨w, l, m, rr, k1, k2, k3, k4⟩ := OwnR.focus ks r ht (Nat.le_of_lt hn)
  have nd1 := s.nod i
  rw [k2] at nd1
  have hsub : ∀ a ∈ m, a ∈ fp i := fun a ha => by
    rw [k2]
    simp [ha]
  refine ⟨v, w, m, e1, k1, k3, hsub, (List.nodup_append.mp (List.nodup_append.mp nd1).1).2.1, fun a o c' m' ha nd' hm ow => ?_⟩
  have hi : i < ρ.length := (List.getElem?_eq_some_iff.mp e).1
  have ia := s.fresh i a (hsub a ha)
  have fa := fun x (hx : x ∈ l ++ m' ++ rr) => show x ∈ fp i ∨ x ∈ as from by
    simp only [List.mem_append] at hx
    rcases hx with (z | z) | z
    · exact .inl (by rw [k2]; simp [z])
    · rcases hm x z with q | q
      · exact .inl (hsub x q)
      · exact .inr q
    · exact .inl (by rw [k2]; simp [z])
  obtain ⟨fp', f1, f2⟩ : ∃ fp' : Nat → List Addr, fp' i = l ++ m' ++ rr ∧ ∀ j, j ≠ i → fp' j = fp j := ⟨fun j => if j = i then l ++ m' ++ rr else fp j, if_pos rfl, fun j h => if_neg h⟩
  have up : Sub (hid (Hd (MoU Mo as) fp []) H) (hid (Hd Mo fp' []) (upd H a o)) := hid_step (fun b u eb nb => by
    rw [upd_ne fun z => nb (.inr ⟨i, by simp, by rw [z]; exact hsub a ha⟩)]
    exact eb) fun b q => by
    refine .inl ?_
    rcases q with q | ⟨k, _, q⟩
    · exact .inl (.inl q)
    · by_cases z : k = i
      · rw [z, f1] at q
        rcases fa b q with q | q
        · exact .inr ⟨i, by simp, q⟩
        · exact .inl (.inr q)
      · rw [f2 k z] at q
        exact .inr ⟨k, by simp, q⟩
  have new : ∀ x, x ∈ fp' i → x ∈ fp i ∨ x ∈ as := fun x hx => by
    rw [f1] at hx
    exact fa x hx
  have asfp : ∀ x j, x ∈ as → x ∉ fp j := fun x j hx hf => (s.fresh j x hf).2 (.inr hx)
  refine ⟨fp', ?_, fun j b hb => by
    by_cases q : j = i
    · rw [q] at hb ⊢
      exact new b hb
    · rw [f2 j q] at hb
      exact .inl hb⟩
  refine ⟨by rw [List.length_set]; exact s.len, (by obtain ⟨u, e, l⟩ := s.ld i a (hsub a ha); exact hp.set e l fun q => ia.2 (.inl q)), fun b hb => ?_, fun b u eb => ?_, s.pb, ⟨s.cap.c.trans (hid_mono fun a h => .inl (.inl h)), s.cap.z, s.cap.f⟩, fun j b hb => ?_, fun j => ?_, fun j k b hb hb' => ?_, fun j c eb => ?_, fun j hj => ?_⟩
  · by_cases q : b = a
    · rw [q, upd_same]
      exact fun q => nomatch q
    · rw [upd_ne q]
      exact s.mo b (.inl hb)
  · rw [upd_ne fun q => by rw [q, ia.1] at eb; cases eb]
    exact s.grow b u eb
  · by_cases q : j = i
    · subst q
      rcases new b hb with z | z
      · exact ⟨(s.fresh _ b z).1, fun q => (s.fresh _ b z).2 (.inl q)⟩
      · exact nw b z
    · rw [f2 j q] at hb
      exact ⟨(s.fresh _ b hb).1, fun q => (s.fresh _ b hb).2 (.inl q)⟩
  · by_cases q : j = i
    · rw [q, f1]
      have n2 := List.nodup_append.mp nd1
      have n3 := List.nodup_append.mp n2.1
      have dm : ∀ x, x ∈ m' → x ∉ l ∧ x ∉ rr := fun x hx => by
        rcases hm x hx with z | z
        · exact ⟨fun q => n3.2.2 x q x z rfl, fun q => n2.2.2 x (List.mem_append_right _ z) x q rfl⟩
        · exact ⟨fun q => asfp x i z (by rw [k2]; simp [q]), fun q => asfp x i z (by rw [k2]; simp [q])⟩
      refine List.nodup_append.mpr ⟨List.nodup_append.mpr ⟨n3.1, nd', fun x hx y hy e => (dm y hy).1 (by rw [← e]; exact hx)⟩, n2.2.1, fun x hx y hy e => ?_⟩
      rcases List.mem_append.mp hx with z | z
      · exact n2.2.2 x (List.mem_append_left _ z) y hy e
      · exact (dm x z).2 (by rw [e]; exact hy)
    · rw [f2 j q]
      exact s.nod j
  · by_cases q : j = i
    · by_cases q' : k = i
      · rw [q, q']
      · rw [f2 k q'] at hb'
        rw [q] at hb
        rcases new b hb with z | z
        · exact q.trans (s.dis i k b z hb')
        · exact absurd hb' (asfp b k z)
    · by_cases q' : k = i
      · rw [f2 j q] at hb
        rw [q'] at hb'
        rcases new b hb' with z | z
        · exact (s.dis j i b hb z).trans q'.symm
        · exact absurd hb (asfp b j z)
      · rw [f2 j q] at hb
        rw [f2 k q'] at hb'
        exact s.dis j k b hb hb'
  · by_cases q : j = i
    · subst q
      rw [List.getElem?_set_self hi] at eb
      cases eb
      refine ⟨v, e1, ?_⟩
      rw [f1]
      exact k4 _ _ c' m' up (fun x hx o' ho => by
        rw [upd_ne fun z => ?_]
        · exact ho
        · have n2 := List.nodup_append.mp nd1
          have n3 := List.nodup_append.mp n2.1
          rw [z] at hx
          rcases List.mem_append.mp hx with q | q
          · exact n3.2.2 a q a ha rfl
          · exact n2.2.2 a (List.mem_append_right _ ha) a q rfl) (ow _ up)
    · rw [List.getElem?_set_ne fun z => q z.symm] at eb
      obtain ⟨v', g1, g2⟩ := s.cell j c eb
      refine ⟨v', g1, ?_⟩
      rw [f2 j q]
      exact g2.step up _ fun x hx o' ho => by
        rw [upd_ne fun z => q (s.dis j i x hx (by rw [z]; exact hsub a ha))]
        exact ho
  · by_cases q : j = i
    · subst q
      exact absurd (List.getElem?_set_self hi) (hj _)
    · rw [f2 j q]
      refine s.none_ j fun c eb => hj c ?_
      rw [List.getElem?_set_ne fun z => q z.symm]
      exact eb
end
end DL
set_option Elab.async false
set_option linter.all false
set_option maxRecDepth 100000
set_option maxHeartbeats 2000000
/-! # The data layer, part 9: stores into lists, append, op= -/
namespace DL
open PySem PySem.Spec PyProof.Rows L2

/-- what is done to a list with one thing more -/
structure LOp where
  f : {α : Type} → α → List α → List α
  own : ∀ {R : D → V → List Addr → Prop} {ds : List D} {vs : List V} {bs : List Addr} {d : D} {v : V} {as : List Addr}, OwnRs R ds vs bs → R d v as → bs.Nodup → as.Nodup → (∀ a ∈ as, a ∉ bs) →
    ∃ cs, OwnRs R (f d ds) (f v vs) cs ∧ cs.Nodup ∧ ∀ a ∈ cs, a ∈ bs ∨ a ∈ as
theorem nd3 {l m r as : List Addr} (h : (l ++ m ++ r).Nodup) (ha : as.Nodup) (d : ∀ a ∈ as, a ∉ l ++ m ++ r) : (l ++ as ++ r).Nodup := by
  have n2 := List.nodup_append.mp h
  have n3 := List.nodup_append.mp n2.1
  refine List.nodup_append.mpr ⟨List.nodup_append.mpr ⟨n3.1, ha, fun x hx y hy e => d y hy (by rw [← e]; simp [hx])⟩, n2.2.1, fun x hx y hy e => ?_⟩
  rcases List.mem_append.mp hx with z | z
  · exact n2.2.2 x (List.mem_append_left _ z) y hy e
  · exact d x z (by rw [e]; simp [hy])
theorem OwnRs.put {R : D → V → List Addr → Prop} : ∀ {ds : List D} {vs : List V} {as : List Addr} {k : Nat} {d : D}, OwnRs R ds vs as → ds[k]? = some d →
    ∃ l m r, as = l ++ m ++ r ∧ ∀ d' v' m', R d' v' m' → OwnRs R (ds.set k d') (vs.set k v') (l ++ m' ++ r)
  | [], _, _, k, d, _, e => by simp at e
  | d0 :: ds, vs, as, 0, d, h, e => by
    obtain ⟨v, w, a1, a2, rfl, rfl, h3, h4⟩ := h
    exact ⟨[], a1, a2, by simp, fun d' v' m' r => ⟨v', w, m', a2, rfl, by simp, r, h4⟩⟩
  | d0 :: ds, vs, as, i + 1, d, h, e => by
    obtain ⟨v, w, a1, a2, rfl, rfl, h3, h4⟩ := h
    obtain ⟨l, m, r, k2, k4⟩ := h4.put (k := i) (d := d) (by simpa using e)
    exact ⟨a1 ++ l, m, r, by rw [k2]; simp, fun d' v' m' q => ⟨v, w.set i v', a1, l ++ m' ++ r, rfl, by simp, h3, k4 d' v' m' q⟩⟩
def lSet (j : Nat) : LOp where
  f x l := l.set j x
  own := by
    intro R ds vs bs d v as h r n1 n2 dj
    cases e : ds[j]? with
    | none =>
      have l1 := List.getElem?_eq_none_iff.mp e
      refine ⟨bs, ?_, n1, fun a h => .inl h⟩
      rw [List.set_eq_of_length_le l1, List.set_eq_of_length_le (by rw [← h.len]; exact l1)]
      exact h
    | some d0 =>
      obtain ⟨l, m, r', rfl, k4⟩ := h.put e
      refine ⟨l ++ as ++ r', k4 d v as r, nd3 n1 n2 dj, fun a h => ?_⟩
      simp only [List.mem_append] at h ⊢
      rcases h with (h | h) | h
      · exact .inl (.inl (.inl h))
      · exact .inr h
      · exact .inl (.inr h)
def lApp : LOp where
  f x l := l ++ [x]
  own := by
    intro R ds vs bs d v as h r n1 n2 dj
    refine ⟨bs ++ as, h.app ⟨v, [], as, [], rfl, by simp, r, rfl, rfl⟩, List.nodup_append.mpr ⟨n1, n2, fun x hx y hy e => dj y hy (by rw [← e]; exact hx)⟩, fun a h => ?_⟩
    exact List.mem_append.mp h
theorem OwnRs.drop {R : D → V → List Addr → Prop} : ∀ (k : Nat) {ds : List D} {vs : List V} {as : List Addr}, OwnRs R ds vs as → as.Nodup → ∃ cs, OwnRs R (ds.eraseIdx k) (vs.eraseIdx k) cs ∧ cs.Nodup ∧ ∀ a ∈ cs, a ∈ as
  | _, [], _, as, h, n => ⟨as, by rw [h.1, h.2]; exact ⟨rfl, rfl⟩, n, fun a h => h⟩
  | 0, d :: ds, vs, as, h, n => by
    obtain ⟨v, w, a1, a2, rfl, rfl, h3, h4⟩ := h
    exact ⟨a2, h4, (List.nodup_append.mp n).2.1, fun a h => List.mem_append_right _ h⟩
  | k + 1, d :: ds, vs, as, h, n => by
    obtain ⟨v, w, a1, a2, rfl, rfl, h3, h4⟩ := h
    have n' := List.nodup_append.mp n
    obtain ⟨cs, c1, c2, c3⟩ := h4.drop k n'.2.1
    refine ⟨a1 ++ cs, ⟨v, w.eraseIdx k, a1, cs, rfl, rfl, h3, c1⟩, List.nodup_append.mpr ⟨n'.1, c2, fun x hx y hy e => n'.2.2 x hx y (c3 y hy) e⟩, fun a h => ?_⟩
    rcases List.mem_append.mp h with z | z
    · exact List.mem_append_left _ z
    · exact List.mem_append_right _ (c3 a z)
/-- one thing taken out (the thing more is not used) -/
def lDrop (k : Nat) : LOp where
  f _ l := l.eraseIdx k
  own := by
    intro R ds vs bs d v as h r n1 n2 dj
    obtain ⟨cs, c1, c2, c3⟩ := h.drop k n1
    exact ⟨cs, c1, c2, fun a h => .inl (c3 a h)⟩

def mutL (op : LOp) (chk : List D → Bool) (x : Nat × List Nat) (z : Z) (ρ : Env) : Option Env :=
  match ρ[x.1]? with
  | some (some c0) => match (frz (z.frL (c0.o - x.2.length - 1)) ρ)[x.1]? with
    | some (some c) => match treeAt x.2 c.d with
      | some (.lst ds) => if x.2.length < c.o ∧ c.o = c0.o ∧ z.okL (c0.o - x.2.length - 1) = true ∧ chk ds = true then some ((frz (z.frL (c0.o - x.2.length - 1)) ρ).set x.1 (some ⟨setTree x.2 c.d (.lst (op.f z.d ds)), c.o⟩)) else none
      | _ => none
    | _ => none
  | _ => none
section
variable {T : Tx} {H0 H H' Hs : Hp} {Mo Mo' : Addr → Prop} {fp : Nat → List Addr} {ρ ρ' : Env} {p p' : Option Pen} {σ : L2.St} {v w vz : V} {d : D} {z : Z} {as : List Addr} {x : Nat × List Nat} {op : LOp} {chk : List D → Bool}
theorem mutL_some (e : mutL op chk x z ρ = some ρ') : ∃ c0 c ds n, ρ[x.1]? = some (some c0) ∧ c0.o - x.2.length - 1 = n ∧ (frz (z.frL n) ρ)[x.1]? = some (some c) ∧ treeAt x.2 c.d = some (.lst ds) ∧ x.2.length < c.o ∧ c.o = c0.o ∧ z.okL n = true ∧ chk ds = true ∧
    ρ' = (frz (z.frL n) ρ).set x.1 (some ⟨setTree x.2 c.d (.lst (op.f z.d ds)), c.o⟩) := by
  unfold mutL at e
  split at e
  · rename_i c0 e0
    split at e
    · rename_i c e1
      split at e
      · rename_i ds e2
        split at e
        · rename_i h
          exact ⟨c0, c, ds, _, e0, rfl, e1, e2, h.1, h.2.1, h.2.2.1, h.2.2.2, (Option.some.inj e).symm⟩
        · cases e
      · cases e
    · cases e
  · cases e
theorem mut_core (s : SRep T H0 Mo fp ρ p σ Hs) (g : Gr T Hs H) (xp : PenRep T Mo p' H) (zr : ZRep T Mo fp Hs z vz H) (hv : σ[x.1]? = some (some v)) (pl : PlV (· ∈ fp x.1) H x.2 v w) (e : mutL op chk x z ρ = some ρ') :
    ∃ a vs ds, w = .ref a ∧ H a = some (.lst vs) ∧ ds.length = vs.length ∧ chk ds = true ∧ a ∈ fp x.1 ∧ ∃ fp', SRep T H0 Mo fp' ρ' p' σ (upd H a (.lst (op.f vz vs))) ∧ ∀ j b, b ∈ fp' j → b ∈ fp j ∨ Hs b = none := by
  obtain ⟨c0, c, ds, n, e0, en, e1, e2, hl, ho, hok, hchk, rfl⟩ := mutL_some e
  obtain ⟨as, o1, o2, o3⟩ := zr.ownL (s.grows g xp).ld hok
  have s1 := (s.hide g xp o3 fun a ha => o1.ld n a ha).frz (z.frL n)
  obtain ⟨v', w', m, q1, q2, q3, q4, q5, q6⟩ := SRep.mut (d := c.d) (n := c.o) (ks := x.2) s1 xp e1 e2 hl o2 fun a ha => s.out (o3 a ha)
  rw [hv] at q1
  cases q1
  have ew := pl.det q2
  subst ew
  have en' : c.o - x.2.length = n + 1 := by omega
  rw [en'] at q3 q6
  obtain ⟨a, vs, bs, rfl, rfl, h3, h4⟩ := q3
  refine ⟨a, vs, ds, rfl, h3, h4.len, hchk, (frzFp_mem _ (q4 a List.mem_cons_self)).2, ?_⟩
  have n1 := List.nodup_cons.mp q5
  have afp : ∀ b ∈ as, b ∉ a :: bs := fun b hb hb' => (s1.fresh x.1 b (q4 b hb')).2 (.inr hb)
  obtain ⟨cs, r1, r2, r3⟩ := op.own (R := fun d v as' => ∀ F', Sub (hid (Hd (MoU Mo as) (frzFp (z.frL n) fp) []) H) F' → OwnR T F' (upd H a (.lst (op.f vz vs))) n d v as') (d := z.d) (v := vz) (as := as)
    (h4.imp fun d v bs' hb r F' sf => r.step sf n fun b hb' o hbo => by
      rw [upd_ne fun q => n1.1 (by rw [← q]; exact hb b hb')]
      exact hbo)
    (fun F' sf => (o1.step (hid_mono (S' := Hd (MoU Mo as) (frzFp (z.frL n) fp) []) fun b q => .inl (by
      rcases q with (q | q) | ⟨k, _, q⟩
      · exact .inl (.inl q)
      · exact .inr q
      · obtain ⟨k1, k2⟩ := frzFp_mem _ q
        exact .inl (.inr ⟨k, k1, k2⟩))) n fun b hb o hbo => hbo).step sf n fun b hb o hbo => by
      rw [upd_ne fun q => afp b hb (by rw [q]; exact List.mem_cons_self)]
      exact hbo)
    n1.2 o2 fun b hb hb' => afp b hb (List.mem_cons_of_mem _ hb')
  have fin := q6 a (.lst (op.f vz vs)) (.lst (op.f z.d ds)) (a :: cs) List.mem_cons_self (List.nodup_cons.mpr ⟨fun q => (r3 a q).elim (fun z => n1.1 z) fun z => afp a z List.mem_cons_self, r2⟩) (fun b hb => (List.mem_cons.mp hb).elim (fun z => .inl (by rw [z]; exact List.mem_cons_self)) fun z => (r3 b z).elim (fun z => .inl (List.mem_cons_of_mem _ z)) .inr) fun F' sf => ⟨a, _, cs, rfl, rfl, upd_same, r1.imp fun d v bs' _ r => r F' sf⟩
  obtain ⟨fp', t1, t2⟩ := fin
  exact ⟨fp', t1, fun j b hb => (t2 j b hb).elim (fun z => .inl (frzFp_mem _ z).2) fun z => .inr (o3 b z)⟩
end

/-! ### places -/
abbrev PM := M (Nat × List Nat)
def PlPost (T : Tx) (Wx : WX) (H0 : Hp) (Mo : Addr → Prop) (fp : Nat → List Addr) (σ : L2.St) (H : Hp) (r : R (Nat × List Nat)) (Q : (Nat × List Nat) → Option Pen → V → Hp → Prop) : Prop :=
  match r with
  | .ok x p => ∀ v w H', σ[x.1]? = some (some v) → Gr T H H' → PenRep T Mo p H' → PlV (· ∈ fp x.1) H' x.2 v w → Q x p w H'
  | .exc c fs p => XPost T Wx H0 Mo c fs p
  | .bad => False
def upP (T : Tx) (Wx : WX) (m : PM) : TE := fun σ H Q => ∃ H0 Mo fp ρ p, SRep T H0 Mo fp ρ p σ H ∧ PlPost T Wx H0 Mo fp σ H (m ρ p) fun _ _ v H' => Q v H'
abbrev DP (X : Cx) (T : Tx) (Wx : WX) (e : Expr) (m : PM) : Prop := PE X e (upP T Wx m)
def plVar (i : Nat) : PM := fun ρ p => match ρ[i]? with | some (some c) => if 0 < c.o then .ok (i, []) p else .bad | _ => .bad
def plGo (x : Nat × List Nat) (y : Z) (ρ : Env) : Option (Nat × List Nat) :=
  match ρ[x.1]? with
  | some (some c) => match treeAt x.2 c.d, y.d with
    | some (.lst ds), .int k => match ixN ds.length k with | some j => if j < ds.length ∧ x.2.length < c.o then some (x.1, x.2 ++ [j]) else none | none => none
    | _, _ => none
  | _ => none
def plIdx (m : PM) (g : M Z) : PM := fun ρ p => (m ρ p).bind fun x p1 => (g ρ p1).bind fun y p2 => match plGo x y ρ with | some x' => .ok x' p2 | none => .bad
section
variable {X : Cx} {T : Tx} {Wx : WX} {pos : Pos} {e0 b : Expr} {m : PM} {g : M Z}
theorem PlPost.imp {H0 H : Hp} {Mo : Addr → Prop} {fp : Nat → List Addr} {σ : L2.St} {r : R (Nat × List Nat)} {Q Q' : (Nat × List Nat) → Option Pen → V → Hp → Prop} (h : PlPost T Wx H0 Mo fp σ H r Q)
    (k : ∀ x p v w H', r = .ok x p → σ[x.1]? = some (some v) → Gr T H H' → PenRep T Mo p H' → PlV (· ∈ fp x.1) H' x.2 v w → Q x p w H' → Q' x p w H') : PlPost T Wx H0 Mo fp σ H r Q' := by
  cases r with
  | ok x p => exact fun v w H' hv g xp pl => k x p v w H' rfl hv g xp pl (h v w H' hv g xp pl)
  | exc c fs p => exact h
  | bad => exact h
theorem PlPost.bind {H0 H : Hp} {Mo : Addr → Prop} {fp : Nat → List Addr} {σ : L2.St} {r : R (Nat × List Nat)} {k : (Nat × List Nat) → Option Pen → R (Nat × List Nat)} {Q : (Nat × List Nat) → Option Pen → V → Hp → Prop} (h : PlPost T Wx H0 Mo fp σ H (r.bind k) Q) :
    PlPost T Wx H0 Mo fp σ H r fun x p1 _ H1 => PlPost T Wx H0 Mo fp σ H1 (k x p1) Q := by
  cases r with
  | ok z p =>
    intro v w H1 hv g xp pl
    have h : PlPost T Wx H0 Mo fp σ H (k z p) Q := h
    show PlPost T Wx H0 Mo fp σ H1 (k z p) Q
    cases e : k z p with
    | ok y p2 =>
      rw [e] at h
      exact fun v w H2 hv g2 => h v w H2 hv (g.trans g2)
    | exc c fs p =>
      rw [e] at h
      exact h
    | bad =>
      rw [e] at h
      exact h
  | exc c fs p => exact h
  | bad => exact h.elim
theorem dp_var {i : Nat} {x : Str} (hN : X.N[i]? = some x := by rfl) (hv : Vis X.env.scope x := by first | exact Or.inl rfl | exact Or.inr (Or.inl rfl) | exact Or.inr (Or.inr rfl)) (hd : (x == ("__debug__" : Str)) = false := by decide)
    (hcd : (x == ("__classdict__" : Str)) = false := by decide) : DP X T Wx (.Name x pos) (plVar i) :=
  (pe_var (i := i) hN hv hd hcd).mono fun σ H Q h => by
    obtain ⟨H0, Mo, fp, ρ, p, s, h⟩ := h
    unfold plVar at h
    split at h
    · rename_i c e
      split at h
      · obtain ⟨v, e1, _⟩ := s.cell i c e
        exact ⟨v, e1, h v v H e1 (.refl H) s.pen rfl⟩
      · exact h.elim
    · exact h.elim
/-- the value at a place of the state -/
theorem SRep.place {H0 H : Hp} {Mo : Addr → Prop} {fp : Nat → List Addr} {ρ : Env} {p : Option Pen} {σ : L2.St} {i : Nat} {ks : List Nat} {c : Cell} {t : D} {v w : V} (s : SRep T H0 Mo fp ρ p σ H) (e : ρ[i]? = some (some c)) (ht : treeAt ks c.d = some t) (hn : ks.length < c.o)
    (hv : σ[i]? = some (some v)) (pl : PlV (· ∈ fp i) H ks v w) : ∃ m n, c.o - ks.length = n + 1 ∧ OwnR T (hid (Hd Mo fp []) H) H (n + 1) t w m ∧ ∀ a ∈ m, a ∈ fp i := by
  obtain ⟨v', e1, r⟩ := s.cell i c e
  rw [hv] at e1
  cases e1
  obtain ⟨w', l, m, rr, k1, k2, k3, _⟩ := OwnR.focus ks r ht (Nat.le_of_lt hn)
  have := pl.det k1
  subst this
  have en : c.o - ks.length = (c.o - ks.length - 1) + 1 := by omega
  refine ⟨m, c.o - ks.length - 1, en, ?_, fun a ha => by rw [k2]; simp [ha]⟩
  rw [← en]
  exact k3
theorem ixN_lt {n : Nat} {i : Int} {j : Nat} (h : ixN n i = some j) : True := trivial
theorem dp_idx (hK : T.K = X.K) (hm : DP X T Wx e0 m) (hb : DE X T Wx b g) (hs : PlainIx b := by exact fun _ _ => rfl) : DP X T Wx (.Subscript e0 b pos) (plIdx m g) :=
  (pe_ix ix_list hm hb hs).mono fun σ H Q h => by
    obtain ⟨H0, Mo, fp, ρ, p, s, h⟩ := h
    refine ⟨H0, Mo, fp, ρ, p, s, (PlPost.bind h).imp fun x p1 v w H1 _ hv g1 x1 pl h => ?_⟩
    have s1 := s.grows g1 x1
    refine ⟨H0, Mo, fp, ρ, p1, s1, ?_⟩
    cases e2 : g ρ p1 with
    | bad =>
      rw [e2] at h
      exact h.elim
    | exc c fs p2 =>
      rw [e2] at h
      exact h
    | ok y p2 =>
      rw [e2] at h
      have h : PlPost T Wx H0 Mo fp σ H1 (match plGo x y ρ with | some x' => .ok x' p2 | none => .bad) fun _ _ v H' => Q v H' := h
      intro vy H2 g2 x2 zr
      cases e3 : plGo x y ρ with
      | none =>
        rw [e3] at h
        exact h.elim
      | some x' =>
        rw [e3] at h
        have s2 := s1.grows g2 x2
        unfold plGo at e3
        split at e3
        · rename_i c ec
          split at e3
          · rename_i ds k et ey
            split at e3
            · rename_i j ej
              split at e3
              · rename_i hj
                cases e3
                have kpl : PlV (· ∈ fp x.1) H2 x.2 v w := pl.grow (fun a o ha ho => g2 a o ho fun z => (s.fresh x.1 a ha).2 (s.pen.mo z).1) fun a h => h
                obtain ⟨m', n, en, ow, hm'⟩ := s2.place ec et hj.2 hv kpl
                obtain ⟨a, vs, bs, rfl, rfl, h3, h4⟩ := ow
                have lv : j < vs.length := by
                  rw [← h4.len]
                  exact hj.1
                refine ⟨a, vs, k, vs[j], rfl, int_of zr ey, .inl (.inl h3), ?_, h v vs[j] H2 hv g2 x2 (kpl.snoc (hm' a List.mem_cons_self) (.inl ⟨vs, h3, List.getElem?_eq_getElem lv⟩))⟩
                unfold atI
                rw [← h4.len, ej]
                exact List.getElem?_eq_getElem lv
              · cases e3
            · cases e3
          · cases e3
        · cases e3
end

/-! ### stores -/
def sStI (fe : M Z) (m : PM) (g : M Z) : SM := fun ρ p => (fe ρ p).thenO fun z p1 => (m ρ p1).thenO fun x p2 => (g ρ p2).thenO fun y p3 =>
  match y.d with
  | .int k => match (match ρ[x.1]? with | some (some c) => treeAt x.2 c.d | _ => none) with
    | some (.lst ds) => match ixN ds.length k with
      | some j => match mutL (lSet j) (fun es => es.length == ds.length) x z ρ with | some ρ' => .nx ρ' p3 | none => .bad
      | none => .bad
    | _ => .bad
  | _ => .bad
def plLst (x : Nat × List Nat) (ρ : Env) : Bool := match ρ[x.1]? with
  | some (some c) => match treeAt x.2 c.d with | some (.lst _) => decide (x.2.length < c.o) | _ => false
  | _ => false
theorem SRep.plLst {T : Tx} {H0 H : Hp} {Mo : Addr → Prop} {fp : Nat → List Addr} {ρ : Env} {p : Option Pen} {σ : L2.St} {x : Nat × List Nat} {v w : V} (s : SRep T H0 Mo fp ρ p σ H) (hv : σ[x.1]? = some (some v)) (pl : PlV (· ∈ fp x.1) H x.2 v w) (e : plLst x ρ = true) : ∃ a vs, w = .ref a ∧ H a = some (.lst vs) := by
  unfold DL.plLst at e
  split at e
  · rename_i c ec
    split at e
    · rename_i ds et
      obtain ⟨m, n, _, ow, _⟩ := s.place ec et (of_decide_eq_true e) hv pl
      obtain ⟨a, vs, bs, rfl, _, h3, _⟩ := ow
      exact ⟨a, vs, rfl, h3⟩
    · cases e
  · cases e
def sApp (m : PM) (fe : M Z) : SM := fun ρ p => (m ρ p).thenO fun x p1 => if plLst x ρ = true then (fe ρ p1).thenO fun z p2 => (match mutL lApp (fun ds => decide (ds.length < LIM)) x z ρ with | some ρ' => .nx ρ' p2 | none => .bad) else .bad
theorem SPost.bindP {T : Tx} {Wx : WX} {H0 H : Hp} {Mo : Addr → Prop} {fp : Nat → List Addr} {σ : L2.St} {r : R (Nat × List Nat)} {k : (Nat × List Nat) → Option Pen → O} {D : Ends} (h : SPost T Wx H0 Mo (r.thenO k) D) : PlPost T Wx H0 Mo fp σ H r fun x p1 _ _ => SPost T Wx H0 Mo (k x p1) D := by
  cases r with
  | ok z p => exact fun v w H1 hv g x pl => h
  | exc c fs p => exact h
  | bad => exact h.elim
section
variable {X : Cx} {T : Tx} {Wx : WX} {pos tpos apos : Pos} {o i e : Expr} {m : PM} {fe g : M Z}
theorem ds_stI (ho : DP X T Wx o m) (hi : DE X T Wx i g) (he : DE X T Wx e fe)
    (ha : ∀ v, assign (.Subscript o i tpos) X.env v = (do let ov ← holding [v] (eval o X.env); let iv ← holding [v, ov] (eval i X.env); standAt tpos; holding [v, ov, iv] (setItem ov iv v); release [v, ov, iv] []) := by intro _; rfl)
    (hs : swapsWithSole [.Subscript o i tpos] e pos.line X.env = pure false := by rfl) (hw : swappedStores [.Subscript o i tpos] e X.env = pure none := by rfl) (h1 : (assignEach [.Subscript o i tpos] X.env).map (·.2) = [assign (.Subscript o i tpos) X.env] := by rfl) :
    DS X T Wx (.Assign [.Subscript o i tpos] e pos) (sStI fe m g) :=
  (ps_asg he (pg_sub ho hi set_list ha) hs hw h1).mono fun D σ H h => by
    obtain ⟨H0, Mo, fp, ρ, p, s, h⟩ := h
    refine ⟨H0, Mo, fp, ρ, p, s, (SPost.bind (Hs := H) (H := H) h).imp fun z p1 vz H1 _ g1 x1 zr h => ?_⟩
    have s1 := s.grows g1 x1
    refine ⟨H0, Mo, fp, ρ, p1, s1, (SPost.bindP (H := H1) (σ := σ) h).imp fun x p2 v w H2 _ hv g2 x2 pl h => ?_⟩
    have s2 := s1.grows g2 x2
    refine ⟨H0, Mo, fp, ρ, p2, s2, (SPost.bind (Hs := H2) (H := H2) h).imp fun y p3 vy H3 _ g3 x3 zy h => ?_⟩
    have g13 := g2.trans g3
    have kpl : PlV (· ∈ fp x.1) H3 x.2 v w := pl.grow (fun a o ha ho => g3 a o ho fun z => (s.fresh x.1 a ha).2 (s.pen.mo z).1) fun a h => h
    split at h
    · rename_i k ey
      split at h
      · rename_i ds ed
        split at h
        · rename_i j ej
          split at h
          · rename_i ρ' em
            obtain ⟨a, vs, ds', rfl, ha, hl, hc, _, fp', s', _⟩ := mut_core s (g1.trans g13) x3 (zr.grows g13 x1 s.mo) hv kpl em
            have hc : ds'.length = ds.length := by simpa using hc
            exact ⟨a, vs, k, j, rfl, int_of zy ey, ha, by rw [← hl, hc]; exact ej, h fp' _ _ s'⟩
          · exact h.elim
        · exact h.elim
      · exact h.elim
    · exact h.elim
theorem ds_append (ho : DP X T Wx o m) (he : DE X T Wx e fe) (hbase : attributeBase o "append" X.env (eval o X.env) = eval o X.env := by rfl) (hfew : ((backTo tpos (starEach [e] X.env)).all (fun x => !x.1) && (backToKw tpos (keywordEach [] X.env)).all (fun x => x.1.isSome) && decide ([e].length + ([] : List Keyword).length + (if ([] : List Keyword).isEmpty then 0 else 1) < 30)) = true := by rfl)
    (hline : (apos.endLine == tpos.line) = true := by rfl) (hs : starEach [e] X.env = (false, eval e X.env) :: starEach [] X.env := by rfl) (hplain : (backTo tpos (starEach [] X.env)).any (·.1) = false := by rfl)
    (hsw : swapsWith (.Call (.Attribute o "append" apos) [e] [] tpos) none pos.line X.env = pure false := by rfl) :
    DS X T Wx (.Expr (.Call (.Attribute o "append" apos) [e] [] tpos) pos) (sApp m fe) :=
  (ps_expr (pe_bm PySem.F.plainAttrs_list PySem.F.slot_list_append PySem.F.type_list_append mt_append ho (pa_cons he pa_nil hs) hbase hfew hline hs hplain) hsw).mono fun D σ H h => by
    obtain ⟨H0, Mo, fp, ρ, p, s, h⟩ := h
    refine ⟨H0, Mo, fp, ρ, p, s, (SPost.bindP (H := H) (σ := σ) h).imp fun x p1 v w H1 _ hv g1 x1 pl h => ?_⟩
    have s1 := s.grows g1 x1
    have fin : ∀ z p2 vz H2, Gr T H1 H2 → PenRep T Mo p2 H2 → ZRep T Mo fp H1 z vz H2 → SPost T Wx H0 Mo (match mutL lApp (fun ds => decide (ds.length < LIM)) x z ρ with | some ρ' => .nx ρ' p2 | none => .bad) D → rAppend w [vz] H2 fun _ H3 => D.nx σ H3 := fun z p2 vz H2 g2 x2 zr h => by
      split at h
      · rename_i ρ' em
        have kpl : PlV (· ∈ fp x.1) H2 x.2 v w := pl.grow (fun a o ha ho => g2 a o ho fun z => (s.fresh x.1 a ha).2 (s.pen.mo z).1) fun a h => h
        obtain ⟨a, vs, ds', rfl, ha, hl, hc, _, fp', s', _⟩ := mut_core s1 g2 x2 zr hv kpl em
        exact ⟨a, vs, vz, rfl, rfl, ha, by rw [← hl]; exact lim_lt (of_decide_eq_true hc), h fp' _ _ s'⟩
      · exact h.elim
    by_cases q : plLst x ρ = true
    case neg =>
      rw [if_neg q] at h
      exact h.elim
    rw [if_pos q] at h
    refine ⟨?_, H0, Mo, fp, ρ, p1, s1, (SPost.bind (Hs := H1) (H := H1) h).imp fun z p2 vz H2 _ g2 x2 zr h => fin z p2 vz H2 g2 x2 zr h⟩
    obtain ⟨a, vs, rfl, e⟩ := s1.plLst hv pl q
    exact .inl ⟨rfl, vs, .inl (.inl e)⟩
end
end DL
set_option Elab.async false
set_option linter.all false
set_option maxRecDepth 100000
set_option maxHeartbeats 2000000
/-! # The data layer, part 10: op=, several names at once, pop -/
namespace DL
open PySem PySem.Spec PyProof.Rows L2

/-! ### op= -/
theorem get_list {X : Cx} : PGet X (rIxL X.K) := by
  intro pins s σ H o i ov iv Q I ro ri h
  obtain ⟨p, xs, k, z, rfl, rfl, hq, he, q⟩ := h
  cases ro
  obtain ⟨t, rfl⟩ := ri
  obtain ⟨its, r, pl, hz⟩ := I.list hq
  obtain ⟨j, h1, h2, h3, h4, h5⟩ := atI_get he
  obtain ⟨w, ew, rw'⟩ := r.get h2
  have hl := r.length
  have hn := line63
  have fin : EP X pins σ Q w s := ⟨z, H, I, rw', q⟩
  by_cases h0 : 0 ≤ k
  · have hj : k.toNat = j := by
      rw [seqIndex_of h0 h5] at h1
      exact Option.some.inj h1
    exact wpAny_getItem_list pl.isList h0 (by omega) (by rw [hj]; simpa using ew) fin
  · have hj : (k + (its.toArray.size : Int)).toNat = j := by
      rw [seqIndex_neg (by omega) h4] at h1
      rw [List.size_toArray, ← hl]
      exact Option.some.inj h1
    exact wpAny_getItem_list_neg pl.isList (by omega) (by rw [List.size_toArray] <;> omega) (by omega) (by rw [hj]; simpa using ew) fin
def sAug (i : Nat) (f : Int → Int → Int) (fe : M Z) : SM := fun ρ p => match ρ[i]? with
  | some (some c) => match c.d with
    | .int a => (fe ρ p).thenO fun z p1 => match z.d with | .int b => .nx (asgN i (zS (.int (f a b))) ρ) p1 | _ => .bad
    | _ => .bad
  | _ => .bad
def sAugI (m : PM) (g : M Z) (f : Int → Int → Int) (fe : M Z) : SM := fun ρ p => (m ρ p).thenO fun x p1 => (g ρ p1).thenO fun y p2 =>
  match y.d with
  | .int k => match (match ρ[x.1]? with | some (some c) => if x.2.length < c.o then treeAt x.2 c.d else none | _ => none) with
    | some (.lst ds) => match ixN ds.length k with
      | some j => match ds[j]? with
        | some (.int a) => (fe ρ p2).thenO fun u p3 => match u.d with
          | .int b => match mutL (lSet j) (fun es => es.length == ds.length) x (zS (.int (f a b))) ρ with | some ρ' => .nx ρ' p3 | none => .bad
          | _ => .bad
        | _ => .bad
      | none => .bad
    | _ => .bad
  | _ => .bad
section
variable {X : Cx} {T : Tx} {Wx : WX} {pos tpos apos : Pos} {o e ie : Expr} {m : PM} {fe g : M Z}
theorem ds_aug {i : Nat} {x : Str} {op : Operator} {f : Int → Int → Int} {pos' : Pos} (hN : X.N.Nodup) (hi : X.N[i]? = some x) (hx : Loc X.env.scope x) (he : DE X T Wx e fe) (ho : PIp X op (ipI f))
    (hf : X.fn x = true ∨ X.env.scope.names.lookup x = some .local := by first | exact .inl rfl | exact .inr rfl | assumption) : DS X T Wx (.AugAssign (.Name x pos') op e pos) (sAug i f fe) :=
  (ps_aug hN hi hx he ho hf).mono fun D σ H h => by
    obtain ⟨H0, Mo, fp, ρ, p, s, h⟩ := h
    unfold sAug at h
    split at h
    · rename_i c ec
      split at h
      · rename_i a ed
        obtain ⟨v, e1, r⟩ := s.cell i c ec
        have r := r.rp (G := H) hid_sub _ fun _ _ _ h => h
        rw [ed] at r
        cases r
        refine ⟨_, e1, H0, Mo, fp, ρ, p, s, (SPost.bind (Hs := H) (H := H) h).imp fun z p1 v H1 _ g x zr h => ?_⟩
        split at h
        · rename_i b ez
          obtain ⟨fp', s'⟩ := s.asg (z := zS (.int (f a b))) (v := .int (f a b)) g x (.scalar fun _ => rfl) (i := i) (List.getElem?_eq_some_iff.mp ec).1
          exact ⟨a, b, rfl, int_of zr ez, h _ _ _ s'⟩
        · exact h.elim
      · exact h.elim
    · exact h.elim
theorem ds_augI {op : Operator} {f : Int → Int → Int} (hK : T.K = X.K) (ho : DP X T Wx o m) (hi : DE X T Wx ie g) (he : DE X T Wx e fe) (hp : PIp X op (ipI f))
    (ha : ∀ ov iv new, augStore ie ov iv new = (do holding [new, ov, iv] (setItem ov iv new); release [new, ov, iv] []; pure .next) := by intros; rfl) : DS X T Wx (.AugAssign (.Subscript o ie tpos) op e pos) (sAugI m g f fe) :=
  (ps_augS ho hi get_list he hp set_list ha).mono fun D σ H h => by
    obtain ⟨H0, Mo, fp, ρ, p, s, h⟩ := h
    refine ⟨H0, Mo, fp, ρ, p, s, (SPost.bindP (H := H) (σ := σ) h).imp fun x p1 v w H1 _ hv g1 x1 pl h => ?_⟩
    have s1 := s.grows g1 x1
    refine ⟨H0, Mo, fp, ρ, p1, s1, (SPost.bind (Hs := H1) (H := H1) h).imp fun y p2 vy H2 _ g2 x2 zy h => ?_⟩
    have s2 := s1.grows g2 x2
    have gk : ∀ {H2 H3 : Hp}, Gr T H2 H3 → PlV (· ∈ fp x.1) H2 x.2 v w → PlV (· ∈ fp x.1) H3 x.2 v w := fun g3 pl => pl.grow (fun a o ha ho => g3 a o ho fun z => (s.fresh x.1 a ha).2 (s.pen.mo z).1) fun a h => h
    split at h
    · rename_i k ey
      split at h
      · rename_i ds ed
        split at h
        · rename_i j ej
          split at h
          · rename_i a ea
            split at ed
            · rename_i c ec
              split at ed
              · rename_i hl
                obtain ⟨m', n, en, ow, hm'⟩ := s2.place ec ed hl hv (gk g2 pl)
                obtain ⟨q, vs, bs, rfl, rfl, h3, h4⟩ := ow
                obtain ⟨u, eu, ru⟩ : ∃ u, vs[j]? = some u ∧ u = .int a := by
                  have rr : Rps T H2 ds vs := h4.rps fun d v bs _ z => z.rp hid_sub n fun _ _ _ h => h
                  obtain ⟨u, e1, e2⟩ := rr.at_ ea
                  exact ⟨u, e1, e2⟩
                subst ru
                refine ⟨q, vs, k, V.int a, rfl, int_of zy ey, .inl (.inl h3), ?_, H0, Mo, fp, ρ, p2, s2, (SPost.bind (Hs := H2) (H := H2) h).imp fun u p3 vu H3 _ g3 x3 zu h => ?_⟩
                · unfold atI
                  rw [← h4.len, ej]
                  exact eu
                · split at h
                  · rename_i b eb
                    split at h
                    · rename_i ρ' em
                      obtain ⟨q', vs', ds', e', ha', hl', hc, _, fp', s', _⟩ := mut_core (z := zS (.int (f a b))) (vz := .int (f a b)) s (g1.trans (g2.trans g3)) x3 (.scalar fun _ => rfl) hv (gk (g2.trans g3) pl) em
                      cases e'
                      have hc : ds'.length = ds.length := by simpa using hc
                      exact ⟨a, b, rfl, int_of zu eb, q, vs', k, j, rfl, int_of zy ey, ha', by rw [← hl', hc]; exact ej, h fp' _ _ s'⟩
                    · exact h.elim
                  · exact h.elim
              · cases ed
            · cases ed
          · exact h.elim
        · exact h.elim
      · exact h.elim
    · exact h.elim
end

/-! ### several values, each with its own new lists -/
inductive OwnZ (R : Z → V → List Addr → Prop) : List Z → List V → List Addr → Prop
  | nil : OwnZ R [] [] []
  | cons {z : Z} {v : V} {a1 a2 : List Addr} {zs : List Z} {vs : List V} (h : R z v a1) (t : OwnZ R zs vs a2) : OwnZ R (z :: zs) (v :: vs) (a1 ++ a2)
theorem OwnZ.imp {R R' : Z → V → List Addr → Prop} : ∀ {zs : List Z} {vs : List V} {as : List Addr}, OwnZ R zs vs as → (∀ z v bs, z ∈ zs → (∀ b ∈ bs, b ∈ as) → R z v bs → R' z v bs) → OwnZ R' zs vs as
  | _, _, _, .nil, _ => .nil
  | _, _, _, .cons h t, k => .cons (k _ _ _ List.mem_cons_self (fun b hb => List.mem_append_left _ hb) h) (t.imp fun z v bs hz hb q => k z v bs (List.mem_cons_of_mem _ hz) (fun b z => List.mem_append_right _ (hb b z)) q)
theorem OwnZ.len {R : Z → V → List Addr → Prop} : ∀ {zs : List Z} {vs : List V} {as : List Addr}, OwnZ R zs vs as → zs.length = vs.length
  | _, _, _, .nil => rfl
  | _, _, _, .cons h t => by rw [List.length_cons, List.length_cons, t.len]
/-- the slots that are frozen for all -/
def fzs : List Z → List Nat
  | [] => []
  | z :: zs => z.fr ++ fzs zs
theorem fzs_mem : ∀ {zs : List Z} {z : Z}, z ∈ zs → ∀ i ∈ z.fr, i ∈ fzs zs
  | y :: zs, z, h, i, hi => by
    rcases List.mem_cons.mp h with e | e
    · exact List.mem_append_left _ (by rw [← e]; exact hi)
    · exact List.mem_append_right _ (fzs_mem e i hi)
structure ZFs (T : Tx) (Mo : Addr → Prop) (fp : Nat → List Addr) (Hs : Hp) (zs : List Z) (vs : List V) (as : List Addr) (H : Hp) : Prop where
  own : OwnZ (fun z v bs => OwnR T (hid (fun a => Hd Mo fp (fzs zs) a ∨ a ∈ as) H) H z.f z.d v bs) zs vs as
  nd : as.Nodup
  nw : ∀ a ∈ as, Hs a = none
  th : ∀ a ∈ as, ∃ o, H a = some o ∧ isLD o
def BPost (T : Tx) (Wx : WX) (H0 : Hp) (Mo : Addr → Prop) (fp : Nat → List Addr) (Hs H : Hp) (r : R (List Z)) (Q : List Z → Option Pen → List V → Hp → Prop) : Prop :=
  match r with
  | .ok zs p => ∀ vs as H', Gr T H H' → PenRep T Mo p H' → ZFs T Mo fp Hs zs vs as H' → Q zs p vs H'
  | .exc c fs p => XPost T Wx H0 Mo c fs p
  | .bad => False
def upB (T : Tx) (Wx : WX) (m : M (List Z)) : TA := fun σ H Q => ∃ H0 Mo fp ρ p, SRep T H0 Mo fp ρ p σ H ∧ BPost T Wx H0 Mo fp H H (m ρ p) fun _ _ vs H' => Q vs H'
abbrev DB (X : Cx) (T : Tx) (Wx : WX) (es : List Expr) (m : M (List Z)) : Prop := PA X es (upB T Wx m)
theorem XPost.less {T : Tx} {Wx : WX} {H0 H : Hp} {Mo : Addr → Prop} {as : List Addr} {c : Nat} {fs : List D} {p p0 : Option Pen} (x : XPost T Wx H0 Mo c fs p) (y : PenRep T Mo p0 H) : XPost T Wx H0 (MoU Mo as) c fs p :=
  fun σ H d vs e xp th hd hl r => x σ H d vs e (xp.less y fun a h => .inl h) (fun a h => th a (.inl h)) hd hl (Rps.sub (hid_mono fun a h => .inl (.inl h)) fs r)
section
variable {X : Cx} {T : Tx} {Wx : WX} {pos tpos apos : Pos} {o e : Expr} {es : List Expr} {m : PM} {f : M Z} {g : M (List Z)}
theorem db_nil : DB X T Wx [] aNil := pa_nil.mono fun σ H Q h => by
  obtain ⟨H0, Mo, fp, ρ, p, s, h⟩ := h
  exact h [] [] H (.refl H) s.pen ⟨.nil, List.nodup_nil, fun a h => absurd h (by simp), fun a h => absurd h (by simp)⟩
theorem db_cons (ha : DE X T Wx e f) (hr : DB X T Wx es g) (hs : starEach (e :: es) X.env = (false, eval e X.env) :: starEach es X.env := by rfl) : DB X T Wx (e :: es) (aCons f g) := by
  refine (pa_cons ha hr hs).mono fun σ H Q h => ?_
  obtain ⟨H0, Mo, fp, ρ, p, s, h⟩ := h
  refine ⟨H0, Mo, fp, ρ, p, s, ?_⟩
  unfold aCons at h
  cases e1 : f ρ p with
  | bad =>
    rw [e1] at h
    exact h.elim
  | exc c fs p1 =>
    rw [e1] at h
    exact h
  | ok z p1 =>
    rw [e1] at h
    intro v H1 g1 x1 zr
    have s1 := s.grows g1 x1
    obtain ⟨as1, o1, o2, o3⟩ := zr.ownR s1.ld
    have sh := s.hide g1 x1 o3 fun a ha => o1.ld _ a ha
    refine ⟨H0, MoU Mo as1, fp, ρ, p1, sh, ?_⟩
    have h : BPost T Wx H0 Mo fp H H ((g ρ p1).bind fun zs p2 => .ok (z :: zs) p2) fun _ _ vs H' => Q vs H' := h
    cases e2 : g ρ p1 with
    | bad =>
      rw [e2] at h
      exact h.elim
    | exc c fs p2 =>
      rw [e2] at h
      exact XPost.less h s.pen
    | ok zs p2 =>
      rw [e2] at h
      intro vs as2 H2 g2 x2 zf
      have n2 : ∀ a ∈ as2, H a = none := fun a ha => g1.back (zf.nw a ha) fun q => s1.nw a q (zf.nw a ha)
      have dj : ∀ a ∈ as2, a ∉ as1 := fun a ha q => sh.mo a (.inr q) (zf.nw a ha)
      have npen : ∀ a ∈ as1, ¬ T.sp a := fun a ha q => s.nw a q (o3 a ha)
      refine h (v :: vs) (as1 ++ as2) H2 (g1.trans g2) (x2.less s.pen fun a h => .inl h) ⟨.cons (o1.step (hid_step (fun a o e q => g2 a o e fun w => q (.inl (.inl (s.pen.mo w).1))) fun a q => ?_) _ fun a ha o ho => g2 a o ho (npen a ha)) (zf.own.imp fun y w bs hy hb r => r.step (hid_mono fun a q => .inl ?_) _ fun a _ o ho => ho), List.nodup_append.mpr ⟨o2, zf.nd, fun a ha b hb e => dj b hb (by rw [← e]; exact ha)⟩, fun a ha => ?_, fun a ha => ?_⟩
      · rcases q with q | q
        · exact .inl (.inl (q.mono fun i hi => List.mem_append_left _ hi))
        · rcases List.mem_append.mp q with q | q
          · exact .inl (.inr q)
          · exact .inr (zf.nw a q)
      · rcases q with (q | ⟨i, k1, k2⟩) | q
        · exact .inl (.inl (.inl q))
        · exact .inl (.inr ⟨i, fun z => k1 (List.mem_append_right _ z), k2⟩)
        · rcases List.mem_append.mp q with q | q
          · exact .inl (.inl (.inr q))
          · exact .inr q
      · rcases List.mem_append.mp ha with q | q
        · exact o3 a q
        · exact n2 a q
      · rcases List.mem_append.mp ha with q | q
        · obtain ⟨o, e, l⟩ := o1.ld _ a q
          exact ⟨o, g2 a o e (npen a q), l⟩
        · exact zf.th a q
end
def putAll : List Nat → List Z → Env → Env
  | i :: is, z :: zs, ρ => putAll is zs (ρ.set i (some ⟨z.d, z.f⟩))
  | _, _, ρ => ρ
def setAll : List Nat → List V → L2.St → L2.St
  | i :: is, v :: vs, σ => setAll is vs (σ.set i (some v))
  | _, _, σ => σ
def allLt : List Nat → Nat → Bool
  | [], _ => true
  | i :: is, n => decide (i < n) && allLt is n
section
variable {T : Tx} {H0 H H' Hs : Hp} {Mo Mo' : Addr → Prop} {fp : Nat → List Addr} {ρ ρ' : Env} {p p' : Option Pen} {σ : L2.St}
theorem moU_swap {as bs : List Addr} : MoU Mo (as ++ bs) = MoU (MoU Mo bs) as := funext fun a => propext ⟨fun h => by
  rcases h with h | h
  · exact .inl (.inl h)
  · rcases List.mem_append.mp h with h | h
    · exact .inr h
    · exact .inl (.inr h), fun h => by
  rcases h with (h | h) | h
  · exact .inl h
  · exact .inr (List.mem_append_right _ h)
  · exact .inr (List.mem_append_left _ h)⟩
theorem SRep.putAll : ∀ {is : List Nat} {zs : List Z} {vs : List V} {as : List Addr} {fp : Nat → List Addr} {ρ : Env} {σ : L2.St} {F : Hp}, SRep T H0 (MoU Mo as) fp ρ p σ H → PenRep T Mo p H → allLt is ρ.length = true → is.length = zs.length →
    OwnZ (fun z v bs => OwnR T F H z.f z.d v bs) zs vs as → Sub F (hid (Hd (MoU Mo as) fp []) H) → as.Nodup → (∀ a ∈ as, H0 a = none ∧ ¬ Mo a) → (∀ a ∈ as, ∃ o, H a = some o ∧ isLD o) → ∃ fp', SRep T H0 Mo fp' (putAll is zs ρ) p (setAll is vs σ) H
  | [], zs, vs, as, fp, ρ, σ, F, s, hp, _, hl, ow, _, _, _, _ => by
    cases ow with
    | nil => exact ⟨fp, by rw [moU_nil] at s; exact s⟩
    | cons _ _ => simp at hl
  | i :: is, zs, vs, as, fp, ρ, σ, F, s, hp, hi, hl, ow, sf, nd, nw, ldn => by
    cases ow with
    | nil => simp at hl
    | @cons z v a1 a2 zs vs h t =>
    have hi := (Bool.and_eq_true _ _).mp hi
    have n2 := List.nodup_append.mp nd
    have es : MoU Mo (a1 ++ a2) = MoU (MoU Mo a2) a1 := moU_swap
    rw [es] at s sf
    have s1 := s.put (i := i) (d := z.d) (f := z.f) (v := v) (hp.more (fun a h => .inl h) fun c q e h => h.elim id fun h => by
      obtain ⟨o, e1, e2⟩ := ldn c (List.mem_append_right _ h)
      rw [e] at e1
      cases e1
      exact (code_ld e2).elim) (of_decide_eq_true hi.1) (h.step sf _ fun _ _ _ h => h) n2.1 fun a ha => ⟨(nw a (List.mem_append_left _ ha)).1, fun q => by
      rcases q with q | q
      · exact (nw a (List.mem_append_left _ ha)).2 q
      · exact n2.2.2 a ha a q rfl⟩
    refine SRep.putAll (is := is) (zs := zs) (vs := vs) s1 hp (by rw [List.length_set]; exact hi.2) (by simpa using hl) t (sf.trans (hid_mono fun a q => .inl ?_)) n2.2.1 (fun a ha => nw a (List.mem_append_right _ ha)) fun a ha => ldn a (List.mem_append_right _ ha)
    rcases q with q | ⟨k, _, q⟩
    · exact .inl (.inl q)
    · by_cases e : k = i
      · dsimp only at q
        rw [if_pos e] at q
        exact .inl (.inr q)
      · dsimp only at q
        rw [if_neg e] at q
        exact .inr ⟨k, by simp, q⟩
end
def sPar (is : List Nat) (g : M (List Z)) : SM := fun ρ p => (g ρ p).thenO fun zs p1 => if is.length = zs.length ∧ allLt is ρ.length = true then .nx (putAll is zs (frz (fzs zs) ρ)) p1 else .bad
section
variable {X : Cx} {T : Tx} {Wx : WX} {pos : Pos} {g : M (List Z)}
theorem up_par {is : List Nat} {K : List V → Hp → Prop} {D : Ends} {σ : L2.St} {H : Hp} (h : upS T Wx (sPar is g) D σ H) (k : ∀ (vs : List V) (H1 : Hp), is.length = vs.length → (∀ H', Sub H1 H' → D.nx (setAll is vs σ) H') → K vs H1) : upB T Wx g σ H K := by
  obtain ⟨H0, Mo, fp, ρ, p, s, h⟩ := h
  refine ⟨H0, Mo, fp, ρ, p, s, ?_⟩
  unfold sPar at h
  cases e : g ρ p with
  | bad =>
    rw [e] at h
    exact h.elim
  | exc c fs p1 =>
    rw [e] at h
    exact h
  | ok zs p1 =>
    rw [e] at h
    intro vs as H1 g1 x1 zf
    have h : SPost T Wx H0 Mo (if is.length = zs.length ∧ allLt is ρ.length = true then .nx (putAll is zs (DL.frz (fzs zs) ρ)) p1 else .bad) D := h
    by_cases q : is.length = zs.length ∧ allLt is ρ.length = true
    · rw [if_pos q] at h
      have s1 := (s.hide g1 x1 zf.nw zf.th).frz (fzs zs)
      obtain ⟨fp', s2⟩ := SRep.putAll s1 x1 (by rw [frz_len]; exact q.2) q.1 zf.own (hid_mono fun a w => .inl (by
        rcases w with (w | w) | ⟨k, _, w⟩
        · exact .inl (.inl w)
        · exact .inr w
        · obtain ⟨k1, k2⟩ := frzFp_mem _ w
          exact .inl (.inr ⟨k, k1, k2⟩))) zf.nd (fun a ha => s.out (zf.nw a ha)) zf.th
      exact k vs H1 (q.1.trans zf.own.len) fun H' sub => h _ _ _ (s2.grows (.of sub) (x1.sub sub))
    · rw [if_neg q] at h
      exact h.elim
theorem two_of {vs : List V} {i j : Nat} (h : [i, j].length = vs.length) : ∃ v w, vs = [v, w] := by
  match vs, h with
  | [v, w], _ => exact ⟨v, w, rfl⟩
theorem three_of {vs : List V} {i j k : Nat} (h : [i, j, k].length = vs.length) : ∃ u v w, vs = [u, v, w] := by
  match vs, h with
  | [u, v, w], _ => exact ⟨u, v, w, rfl⟩
theorem ds_par2 {i j : Nat} {x y : Str} {a b : Expr} {px py pt : Pos} {kt k2 pt2} (hc : X.calm = true) (hN : X.N.Nodup) (hi : X.N[i]? = some x) (hj : X.N[j]? = some y) (hij : i ≠ j) (hx : X.env.scope.names.lookup x = some .local) (hy : X.env.scope.names.lookup y = some .local) (ha : DB X T Wx [a, b] g)
    (hw : swappedStores [.Tuple [.Name x px, .Name y py] kt pt] (.Tuple [a, b] k2 pt2) X.env = pure (some [x, y])) (hs : swapsWithSole [.Tuple [.Name x px, .Name y py] kt pt] (.Tuple [a, b] k2 pt2) pos.line X.env = pure false := by rfl) :
    DS X T Wx (.Assign [.Tuple [.Name x px, .Name y py] kt pt] (.Tuple [a, b] k2 pt2) pos) (sPar [i, j] g) :=
  (ps_par hc hN hi hj hij hx hy ha hw hs).mono fun D σ H h => up_par h fun vs H1 hl k => by
    obtain ⟨v, w, rfl⟩ := two_of hl
    exact ⟨v, w, rfl, k _ (.refl _)⟩
theorem ds_par3 {i j l : Nat} {x y z : Str} {a b c : Expr} {px py pz pt : Pos} {kt k2 pt2} (hc : X.calm = true) (hN : X.N.Nodup) (hi : X.N[i]? = some x) (hj : X.N[j]? = some y) (hl : X.N[l]? = some z) (hij : i ≠ j) (hil : i ≠ l) (hjl : j ≠ l)
    (hx : X.env.scope.names.lookup x = some .local) (hy : X.env.scope.names.lookup y = some .local) (hz : X.env.scope.names.lookup z = some .local) (ha : DB X T Wx [a, b, c] g)
    (hw : swappedStores [.Tuple [.Name x px, .Name y py, .Name z pz] kt pt] (.Tuple [a, b, c] k2 pt2) X.env = pure (some [x, y, z])) (hs : swapsWithSole [.Tuple [.Name x px, .Name y py, .Name z pz] kt pt] (.Tuple [a, b, c] k2 pt2) pos.line X.env = pure false := by rfl) :
    DS X T Wx (.Assign [.Tuple [.Name x px, .Name y py, .Name z pz] kt pt] (.Tuple [a, b, c] k2 pt2) pos) (sPar [i, j, l] g) :=
  (ps_par3 hc hN hi hj hl hij hil hjl hx hy hz ha hw hs).mono fun D σ H h => up_par h fun vs H1 hl k => by
    obtain ⟨u, v, w, rfl⟩ := three_of hl
    exact ⟨u, v, w, rfl, k _ (.refl _)⟩
def gNm : List Nat → TGs
  | [] => gNil
  | i :: is => gCons (gName i) (gNm is)
theorem gNm_of : ∀ {is : List Nat} {vs : List V} {σ : L2.St} {H : Hp} {Q : L2.St → Hp → Prop}, is.length = vs.length → Q (setAll is vs σ) H → gNm is vs σ H Q
  | [], [], _, _, _, _, q => ⟨rfl, q⟩
  | i :: is, v :: vs, σ, H, Q, l, q => ⟨v, vs, rfl, gNm_of (by simpa using l) q⟩
theorem ds_parN {is : List Nat} {es ts : List Expr} {k k2 : Nat} {n : Nat} {pt pt2 : Pos} (hc : X.calm = true) (ha : DB X T Wx es g) (hg : PGs X ts (gNm is)) (hn : (assignEach ts X.env).length = n := by rfl) (hst : (assignEach ts X.env).findIdx? (·.1) = none := by rfl) (hni : is.length = n := by rfl) (hz : is.length ≤ 1000 := by decide)
    (hs : swapsWithSole [.Tuple ts k pt] (.Tuple es k2 pt2) pos.line X.env = pure false := by rfl) (hw : swappedStores [.Tuple ts k pt] (.Tuple es k2 pt2) X.env = pure none := by rfl) (h1 : (assignEach [.Tuple ts k pt] X.env).map (·.2) = [assign (.Tuple ts k pt) X.env] := by rfl) :
    DS X T Wx (.Assign [.Tuple ts k pt] (.Tuple es k2 pt2) pos) (sPar is g) :=
  (ps_asg (pe_tup ha) (pg_tup hc hg hn hst) hs hw h1).mono fun D σ H h => up_par h fun vs H1 hl k =>
    ⟨by rw [← hl]; exact lim_le (Nat.le_trans hz (by decide)), fun q nq => ⟨q, vs, rfl, .inl (.inl upd_same), by rw [← hl, hni], gNm_of hl (k _ (.new nq))⟩⟩
end

/-! ### pop -/
def popD (x : Nat × List Nat) (ix : Nat → Option Nat) (ρ : Env) : Option (D × Env) :=
  match ρ[x.1]? with
  | some (some c) => match treeAt x.2 c.d with
    | some (.lst ds) => match ix ds.length with
      | some k => match ds[k]?, mutL (lDrop k) (fun es => es.length == ds.length) x (zS .non) ρ with
        | some d, some ρ' => if c.o = x.2.length + 1 then some (d, ρ') else none
        | _, _ => none
      | none => none
    | _ => none
  | _ => none
section
variable {T : Tx} {H0 H : Hp} {Mo : Addr → Prop} {fp : Nat → List Addr} {ρ ρ' : Env} {p : Option Pen} {σ : L2.St} {v w : V} {d : D} {x : Nat × List Nat} {ix : Nat → Option Nat}
theorem pop_core (s : SRep T H0 Mo fp ρ p σ H) (hv : σ[x.1]? = some (some v)) (pl : PlV (· ∈ fp x.1) H x.2 v w) (e : popD x ix ρ = some (d, ρ')) :
    ∃ a vs u k fp', w = .ref a ∧ H a = some (.lst vs) ∧ ix vs.length = some k ∧ vs[k]? = some u ∧ SRep T H0 Mo fp' ρ' p σ (upd H a (.lst (vs.eraseIdx k))) ∧ Rp T (hid (Hd Mo fp' []) (upd H a (.lst (vs.eraseIdx k)))) d u := by
  unfold popD at e
  split at e
  · rename_i c ec
    split at e
    · rename_i ds et
      split at e
      · rename_i k ek
        split at e
        · rename_i d' ρ'' ed em
          split at e
          · rename_i ho
            cases e
            obtain ⟨a, vs, ds', rfl, ha, hl, hc, haf, fp', s', sub⟩ := mut_core (z := zS .non) (vz := .non) s (.refl H) s.pen (.scalar fun _ => rfl) hv pl em
            have hc : ds'.length = ds.length := by simpa using hc
            obtain ⟨m, n, en, ow, _⟩ := s.place ec et (by omega) hv pl
            have n0 : n = 0 := by omega
            subst n0
            obtain ⟨a', vs', bs, e', _, h3, h4⟩ := ow
            cases e'
            rw [ha] at h3
            cases h3
            have rr : Rps T (hid (Hd Mo fp []) H) ds vs := h4.rps fun d v bs _ z => z.2
            obtain ⟨u, e1, e2⟩ := rr.at_ ed
            refine ⟨a, vs, u, k, fp', rfl, ha, by rw [← hl, hc]; exact ek, e1, s', Rp.sub (hid_step (fun b o hb nb => ?_) fun b q => ?_) d e2⟩
            · show upd H a _ b = some o
              rw [upd_ne fun z => nb (.inr ⟨x.1, by simp, by rw [z]; exact haf⟩)]
              exact hb
            · rcases q with q | ⟨k, _, q⟩
              · exact .inl (.inl q)
              · rcases sub k b q with z | z
                · exact .inl (.inr ⟨k, by simp, z⟩)
                · exact .inr z
          · cases e
        · cases e
      · cases e
    · cases e
  · cases e
end
/-- the index that pop takes -/
def ixPop (k : Int) (n : Nat) : Option Nat := if -(2 ^ 63) ≤ k ∧ k < 2 ^ 63 then seqIndex? k n else none
def sPop1 (tm : TM) (m : PM) (g : M Z) : SM := fun ρ p => (m ρ p).thenO fun x p1 => if plLst x ρ = true then (g ρ p1).thenO fun y p2 => match y.d with
  | .int k => (match popD x (ixPop k) ρ with
    | some r => match tm r.1 r.2 with | some ρ2 => .nx ρ2 p2 | none => .bad
    | none => .bad)
  | _ => .bad else .bad
def sPop0 (tm : TM) (m : PM) : SM := fun ρ p => (m ρ p).thenO fun x p1 => if plLst x ρ = true then (match popD x (fun n => if n = 0 then none else some (n - 1)) ρ with
    | some r => match tm r.1 r.2 with | some ρ2 => .nx ρ2 p1 | none => .bad
    | none => .bad) else .bad
/-- no target -/
def tmNo : TM := fun _ ρ => some ρ
def sAppPop (i : Nat) (m : PM) (g : M Z) : SM := fun ρ p => if plLst (i, []) ρ = true then (m ρ p).thenO fun x p1 => if plLst x ρ = true then (g ρ p1).thenO fun y p2 => match y.d with
  | .int k => (match popD x (ixPop k) ρ with
    | some r => match mutL lApp (fun ds => decide (ds.length < LIM)) (i, []) ⟨r.1, [], [], 0⟩ r.2 with | some ρ2 => .nx ρ2 p2 | none => .bad
    | none => .bad)
  | _ => .bad else .bad else .bad
section
variable {X : Cx} {T : Tx} {Wx : WX} {pos cpos tpos apos : Pos} {o e tg : Expr} {m : PM} {g : M Z} {tm : TM} {js : List Nat}
/-- what a popping expression gives, for a K of the value and the heap -/
theorem up_pop1 {σ : L2.St} {H : Hp} {K : VK} {k : (D × Env) → Option Pen → O} {D : Ends} {H0 : Hp} {Mo : Addr → Prop} {fp : Nat → List Addr} {ρ : Env} {p : Option Pen} (s : SRep T H0 Mo fp ρ p σ H)
    (h : SPost T Wx H0 Mo ((m ρ p).thenO fun x p1 => if plLst x ρ = true then (g ρ p1).thenO fun y p2 => match y.d with | .int k' => (match popD x (ixPop k') ρ with | some r => k r p2 | none => .bad) | _ => .bad else .bad) D)
    (hK : ∀ r p2 fp' u H', SRep T H0 Mo fp' r.2 p2 σ H' → Rp T (hid (Hd Mo fp' []) H') r.1 u → SPost T Wx H0 Mo (k r p2) D → K u H') :
    tBM X.K "list" rPopAt (upP T Wx m) (tCons (upE T Wx g) tNil) σ H K := by
  refine ⟨H0, Mo, fp, ρ, p, s, (SPost.bindP (H := H) (σ := σ) h).imp fun x p1 v w H1 _ hv g1 x1 pl h => ?_⟩
  have s1 := s.grows g1 x1
  by_cases q : plLst x ρ = true
  case neg =>
    rw [if_neg q] at h
    exact h.elim
  rw [if_pos q] at h
  obtain ⟨a, vs, rfl, e⟩ := s1.plLst hv pl q
  refine ⟨.inl ⟨rfl, vs, .inl (.inl e)⟩, H0, Mo, fp, ρ, p1, s1, (SPost.bind (Hs := H1) (H := H1) h).imp fun y p2 vy H2 _ g2 x2 zy h => ?_⟩
  have s2 := s1.grows g2 x2
  split at h
  · rename_i k' ey
    split at h
    · rename_i r er
      obtain ⟨a', vs', u, k', fp', e', ha, hix, hu, s3, rp⟩ := pop_core s2 hv (pl.grow (fun a o ha ho => g2 a o ho fun z => (s.fresh x.1 a ha).2 (s.pen.mo z).1) fun a h => h) er
      cases e'
      unfold ixPop at hix
      split at hix
      · rename_i hb
        exact ⟨a, vs', _, k', u, rfl, by rw [int_of zy ey], ha, hb.1, hb.2, hix, hu, hK r p2 fp' u _ s3 rp h⟩
      · cases hix
    · exact h.elim
  · exact h.elim
theorem up_pop0 {σ : L2.St} {H : Hp} {K : VK} {k : (D × Env) → Option Pen → O} {D : Ends} {H0 : Hp} {Mo : Addr → Prop} {fp : Nat → List Addr} {ρ : Env} {p : Option Pen} (s : SRep T H0 Mo fp ρ p σ H)
    (h : SPost T Wx H0 Mo ((m ρ p).thenO fun x p1 => if plLst x ρ = true then (match popD x (fun n => if n = 0 then none else some (n - 1)) ρ with | some r => k r p1 | none => .bad) else .bad) D)
    (hK : ∀ r p2 fp' u H', SRep T H0 Mo fp' r.2 p2 σ H' → Rp T (hid (Hd Mo fp' []) H') r.1 u → SPost T Wx H0 Mo (k r p2) D → K u H') :
    tBM0 X.K "list" rPop (upP T Wx m) σ H K := by
  refine ⟨H0, Mo, fp, ρ, p, s, (SPost.bindP (H := H) (σ := σ) h).imp fun x p1 v w H1 _ hv g1 x1 pl h => ?_⟩
  have s1 := s.grows g1 x1
  by_cases q : plLst x ρ = true
  case neg =>
    rw [if_neg q] at h
    exact h.elim
  rw [if_pos q] at h
  obtain ⟨a, vs, rfl, e⟩ := s1.plLst hv pl q
  refine ⟨.inl ⟨rfl, vs, .inl (.inl e)⟩, ?_⟩
  split at h
  · rename_i r er
    obtain ⟨a', vs', u, k', fp', e', ha, hix, hu, s3, rp⟩ := pop_core s1 hv pl er
    cases e'
    split at hix
    · cases hix
    · cases hix
      refine ⟨a, vs', u, rfl, rfl, ha, hu, ?_⟩
      have : vs'.dropLast = vs'.eraseIdx (vs'.length - 1) := by rw [List.eraseIdx_length_sub_one]
      rw [this]
      exact hK r p1 fp' u _ s3 rp h
  · exact h.elim
theorem ds_popA {x' : Expr} (htg : DG X T tg js tm) (ho : DP X T Wx o m) (he : DE X T Wx e g) (hbase : attributeBase o "pop" X.env (eval o X.env) = eval o X.env := by rfl)
    (hfew : ((backTo cpos (starEach [e] X.env)).all (fun x => !x.1) && (backToKw cpos (keywordEach [] X.env)).all (fun x => x.1.isSome) && decide ([e].length + ([] : List Keyword).length + (if ([] : List Keyword).isEmpty then 0 else 1) < 30)) = true := by rfl)
    (hline : (apos.endLine == cpos.line) = true := by rfl) (hss : starEach [e] X.env = (false, eval e X.env) :: starEach [] X.env := by rfl) (hplain : (backTo cpos (starEach [] X.env)).any (·.1) = false := by rfl)
    (hs : swapsWithSole [tg] (.Call (.Attribute o "pop" apos) [e] [] cpos) pos.line X.env = pure false := by rfl) (hw : swappedStores [tg] (.Call (.Attribute o "pop" apos) [e] [] cpos) X.env = pure none := by rfl) (h1 : (assignEach [tg] X.env).map (·.2) = [assign tg X.env] := by rfl) :
    DS X T Wx (.Assign [tg] (.Call (.Attribute o "pop" apos) [e] [] cpos) pos) (sPop1 tm m g) :=
  (ps_asg (pe_bm PySem.F.plainAttrs_list PySem.F.slot_list_pop PySem.F.type_list_pop mt_popAt ho (pa_cons he pa_nil hss) hbase hfew hline hss hplain) htg hs hw h1).mono fun D σ H h => by
    obtain ⟨H0, Mo, fp, ρ, p, s, h⟩ := h
    refine up_pop1 (k := fun r p2 => match tm r.1 r.2 with | some ρ2 => .nx ρ2 p2 | none => .bad) s h fun r p2 fp' u H' s' rp h => ?_
    split at h
    · rename_i ρ2 e2
      exact ⟨H0, Mo, fp', r.2, p2, r.1, ρ2, s', rp, e2, fun fp2 σ' s2 _ _ _ => h _ _ _ s2⟩
    · exact h.elim
theorem ds_popA0 (htg : DG X T tg js tm) (ho : DP X T Wx o m) (hbase : attributeBase o "pop" X.env (eval o X.env) = eval o X.env := by rfl) (hline : (apos.endLine == cpos.line) = true := by rfl)
    (hs : swapsWithSole [tg] (.Call (.Attribute o "pop" apos) [] [] cpos) pos.line X.env = pure false := by rfl) (hw : swappedStores [tg] (.Call (.Attribute o "pop" apos) [] [] cpos) X.env = pure none := by rfl) (h1 : (assignEach [tg] X.env).map (·.2) = [assign tg X.env] := by rfl) :
    DS X T Wx (.Assign [tg] (.Call (.Attribute o "pop" apos) [] [] cpos) pos) (sPop0 tm m) :=
  (ps_asg (pe_bm0 PySem.F.plainAttrs_list PySem.F.slot_list_pop PySem.F.type_list_pop mt_pop ho hbase hline) htg hs hw h1).mono fun D σ H h => by
    obtain ⟨H0, Mo, fp, ρ, p, s, h⟩ := h
    refine up_pop0 (k := fun r p2 => match tm r.1 r.2 with | some ρ2 => .nx ρ2 p2 | none => .bad) s h fun r p2 fp' u H' s' rp h => ?_
    split at h
    · rename_i ρ2 e2
      exact ⟨H0, Mo, fp', r.2, p2, r.1, ρ2, s', rp, e2, fun fp2 σ' s2 _ _ _ => h _ _ _ s2⟩
    · exact h.elim
theorem ds_popS0 (ho : DP X T Wx o m) (hbase : attributeBase o "pop" X.env (eval o X.env) = eval o X.env := by rfl) (hline : (apos.endLine == cpos.line) = true := by rfl)
    (hsw : swapsWith (.Call (.Attribute o "pop" apos) [] [] cpos) none pos.line X.env = pure false := by rfl) :
    DS X T Wx (.Expr (.Call (.Attribute o "pop" apos) [] [] cpos) pos) (sPop0 tmNo m) :=
  (ps_expr (pe_bm0 PySem.F.plainAttrs_list PySem.F.slot_list_pop PySem.F.type_list_pop mt_pop ho hbase hline) hsw).mono fun D σ H h => by
    obtain ⟨H0, Mo, fp, ρ, p, s, h⟩ := h
    exact up_pop0 (k := fun r p2 => match tmNo r.1 r.2 with | some ρ2 => .nx ρ2 p2 | none => .bad) s h fun r p2 fp' u H' s' rp h => h _ _ _ s'
/-- xs.append(ys.pop(e)) -/
theorem ds_appPop {i : Nat} {x : Str} {xpos apos2 cpos2 : Pos} (hN : X.N[i]? = some x) (hv : Vis X.env.scope x) (ho : DP X T Wx o m) (he : DE X T Wx e g) (hbase : attributeBase o "pop" X.env (eval o X.env) = eval o X.env := by rfl)
    (hfew : ((backTo cpos (starEach [e] X.env)).all (fun x => !x.1) && (backToKw cpos (keywordEach [] X.env)).all (fun x => x.1.isSome) && decide ([e].length + ([] : List Keyword).length + (if ([] : List Keyword).isEmpty then 0 else 1) < 30)) = true := by rfl)
    (hline : (apos.endLine == cpos.line) = true := by rfl) (hss : starEach [e] X.env = (false, eval e X.env) :: starEach [] X.env := by rfl) (hplain : (backTo cpos (starEach [] X.env)).any (·.1) = false := by rfl)
    (hbase2 : attributeBase (.Name x xpos) "append" X.env (eval (.Name x xpos) X.env) = eval (.Name x xpos) X.env := by rfl)
    (hfew2 : ((backTo cpos2 (starEach [.Call (.Attribute o "pop" apos) [e] [] cpos] X.env)).all (fun x => !x.1) && (backToKw cpos2 (keywordEach [] X.env)).all (fun x => x.1.isSome) && decide ([Expr.Call (.Attribute o "pop" apos) [e] [] cpos].length + ([] : List Keyword).length + (if ([] : List Keyword).isEmpty then 0 else 1) < 30)) = true := by rfl)
    (hline2 : (apos2.endLine == cpos2.line) = true := by rfl) (hss2 : starEach [.Call (.Attribute o "pop" apos) [e] [] cpos] X.env = (false, eval (.Call (.Attribute o "pop" apos) [e] [] cpos) X.env) :: starEach [] X.env := by rfl) (hplain2 : (backTo cpos2 (starEach [] X.env)).any (·.1) = false := by rfl)
    (hsw : swapsWith (.Call (.Attribute (.Name x xpos) "append" apos2) [.Call (.Attribute o "pop" apos) [e] [] cpos] [] cpos2) none pos.line X.env = pure false := by rfl)
    (hd : (x == ("__debug__" : Str)) = false := by decide) (hcd : (x == ("__classdict__" : Str)) = false := by decide) :
    DS X T Wx (.Expr (.Call (.Attribute (.Name x xpos) "append" apos2) [.Call (.Attribute o "pop" apos) [e] [] cpos] [] cpos2) pos) (sAppPop i m g) :=
  (ps_expr (pe_bm PySem.F.plainAttrs_list PySem.F.slot_list_append PySem.F.type_list_append mt_append (pe_var (i := i) hN hv hd hcd)
    (pa_cons (pe_bm PySem.F.plainAttrs_list PySem.F.slot_list_pop PySem.F.type_list_pop mt_popAt ho (pa_cons he pa_nil hss) hbase hfew hline hss hplain) pa_nil hss2) hbase2 hfew2 hline2 hss2 hplain2) hsw).mono fun D σ H h => by
    obtain ⟨H0, Mo, fp, ρ, p, s, h⟩ := h
    unfold sAppPop at h
    by_cases q : plLst (i, []) ρ = true
    case neg =>
      rw [if_neg q] at h
      exact h.elim
    rw [if_pos q] at h
    obtain ⟨v, hv'⟩ : ∃ v, σ[i]? = some (some v) := by
      unfold plLst at q
      split at q
      · rename_i c ec
        obtain ⟨v, e1, _⟩ := s.cell i c ec
        exact ⟨v, e1⟩
      · cases q
    obtain ⟨a, vs, rfl, e⟩ := s.plLst (x := (i, [])) hv' rfl q
    refine ⟨_, hv', .inl ⟨rfl, vs, .inl (.inl e)⟩, ?_⟩
    refine up_pop1 (k := fun r p2 => match mutL lApp (fun ds => decide (ds.length < LIM)) (i, []) ⟨r.1, [], [], 0⟩ r.2 with | some ρ2 => .nx ρ2 p2 | none => .bad) s h fun r p2 fp' u H' s' rp h => ?_
    split at h
    · rename_i ρ2 e2
      obtain ⟨a', vs', ds', e', ha, hl, hc, _, fp2, s2, _⟩ := mut_core (x := (i, [])) (z := ⟨r.1, [], [], 0⟩) (vz := u) (w := .ref a) s' (.refl H') s'.pen ⟨.of rp, fun n => absurd rfl n⟩ hv' rfl e2
      cases e'
      exact ⟨a, vs', u, rfl, rfl, ha, by rw [← hl]; exact lim_lt (of_decide_eq_true hc), h fp2 _ _ s2⟩
    · exact h.elim
end
end DL
set_option Elab.async false
set_option linter.all false
set_option maxRecDepth 100000
set_option maxHeartbeats 2000000
/-! # The data layer, part 11: defs and calls -/
namespace DL
open PySem PySem.Spec PyProof.Rows L2

/-- a def of the text; whoever calls it is in the midst of no repr -/
def GRun (P : Program) (w : World) (K : PySem.W.Frag) (mg : Str → Option Value) (base : Heap) (k : Nat) (f : Addr) (fd : FuncData) (ps : List Str) (sp : Sp) : Prop :=
  ∀ (A : Around) (out : List PySem.Env) (s : Shared) (H : Hp) (ar : Args) (us : List Value) (vs : List V) (Q : VK) (E : XK), A.guards = some [] → Room k A →
    Env0 P w K mg base A out s H → BindsTo s fd ar (ps.zip us) → Vals vs us → sp vs H Q E → codeAny (model P w) A (.call (.ref f) ar) (CR (L2.CX P w) out P w H s Q E) s
structure FnG (P : Program) (w : World) (K : PySem.W.Frag) (mg : Str → Option Value) (base : Heap) (k : Nat) (f : Addr) (sp : Sp) : Prop where
  ex : ∃ (ps : List Str) (fd : FuncData), Binds K fd ps [] ∧ (∀ vs H Q E, sp vs H Q E → vs.length = ps.length) ∧ GRun P w K mg base k f fd ps sp
theorem FnG.mono {P : Program} {w : World} {K : PySem.W.Frag} {mg : Str → Option Value} {base : Heap} {j k : Nat} {f : Addr} {sp : Sp} (F : FnG P w K mg base j f sp) (h : j ≤ k) : FnG P w K mg base k f sp := by
  obtain ⟨ps, fd, h1, h2, h3⟩ := F.ex
  exact ⟨ps, fd, h1, h2, fun A out s H ar us vs Q E hg hr => h3 A out s H ar us vs Q E hg (hr.mono h)⟩
section
variable {P : Program} {w : World} {K : PySem.W.Frag} {mg : Str → Option Value} {base : Heap}
theorem fnG_mkC {x qual : Str} {st : Stmt} {f : Addr} {fd : FuncData} {N ps : List Str} {k : Nat} {sp : Sp} (F : Fun K x qual st f fd) (S : FnScope N ps (defScope st)) (bd : Binds K fd ps []) (ln : ∀ vs H Q E, sp vs H Q E → vs.length = ps.length)
    (body : ∀ (cdv : Value) (hcv : fd.code = cdv) (A : Around) (out : List PySem.Env) (s : Shared) (H : Hp) (vs : List V) (Q : VK) (E : XK), A.guards = some [] → Room k (A.deeper (envOfC qual (defScope st) s.heap.objs.size f cdv)) → sp vs H Q E →
      ∃ t, PSs (cxOf (L2.CX P w) P w K mg base N qual (defScope st) f cdv A out s H E) (defBody st) t ∧ t { nx := fun _ H' => Q .non H', rt := Q } (L2.start N vs) H) : FnG P w K mg base (k + 1) f sp := by
  obtain ⟨c1, c2, c3, c4, c5, c6, cdv, c8, c9, rfl, lk, hcd⟩ := F.ex
  refine ⟨ps, _, bd, ln, fun A out s H ar us vs Q E hg hr en hb rv hq => ?_⟩
  have hl := ln vs H Q E hq
  have hin : K.In s.heap := en.mod.kin.keeps fun a o e => (en.bs a o e).1
  have hlim : s.heap.NoLimit := en.mod.nolimit.keeps fun a o e => (en.bs a o e).1
  refine codeAny_call_function hr.depth (hin _ _ lk) rfl S.co S.gen rfl (PySem.W.codeRec_of hin hcd) (hb _ _ _ _ ?_)
  refine wpAny_newFunctionEnv_cells S.kind (fun y hy => ?_) fun env he s1 ic => ?_
  · obtain ⟨y1, y2⟩ := y
    exact (S.par y1 (List.of_mem_zip hy).1).elim .inl fun z => .inr ⟨z, PySem.W.cellsFrom_some _ _ _ (.inl z)⟩
  · subst he
    refine ⟨hlim.keeps ic.toInCall.keep, codeAny_func ?_⟩
    obtain ⟨t, t1, t2⟩ := body cdv rfl A out s H vs Q E hg (hr.deeper _) hq
    have J0 := inv_start (CX := L2.CX P w) (E := E) (f := f) (cd := cdv) (qual := qual) S hr.hd en hl rv ic
    refine wpAny_mono (t1.run [] s1 (L2.start N vs) H _ J0 t2) (fun fl s' hs => ?_) fun e s' he' => he'
    cases fl with
    | ret u =>
      obtain ⟨v, σ', H', J, ru, q⟩ := hs
      exact ⟨v, H', J.os, J.bare, J.base, J.hok, ru, q⟩
    | next =>
      obtain ⟨σ', H', J, q⟩ := hs
      exact ⟨.non, H', J.os, J.bare, J.base, J.hok, rfl, q⟩
    | brk =>
      obtain ⟨_, _, _, q⟩ := hs
      exact q.elim
    | cont =>
      obtain ⟨_, _, _, q⟩ := hs
      exact q.elim
theorem fnG_mk {x qual : Str} {st : Stmt} {f : Addr} {fd : FuncData} {N ps : List Str} {k : Nat} {sp : Sp} (F : Fun K x qual st f fd) (S : FnScope N ps (defScope st)) (bd : Binds K fd ps []) (ln : ∀ vs H Q E, sp vs H Q E → vs.length = ps.length)
    (body : ∀ (cdv : Value) (A : Around) (out : List PySem.Env) (s : Shared) (H : Hp) (vs : List V) (Q : VK) (E : XK), A.guards = some [] → Room k (A.deeper (envOfC qual (defScope st) s.heap.objs.size f cdv)) → sp vs H Q E →
      ∃ t, PSs (cxOf (L2.CX P w) P w K mg base N qual (defScope st) f cdv A out s H E) (defBody st) t ∧ t { nx := fun _ H' => Q .non H', rt := Q } (L2.start N vs) H) : FnG P w K mg base (k + 1) f sp :=
  fnG_mkC F S bd ln fun cdv _ A out s H vs Q E hg hr h => body cdv A out s H vs Q E hg hr h
end
section
variable {X : Cx} {k j : Nat} {f : Addr} {sp : Sp} {E : L2.St → XK} {x : Str} {p pos : Pos} {e : Expr} {es : List Expr} {t : TA} {W : WX}
theorem runG {pins : List (Addr × Obj)} {σ : L2.St} {H : Hp} {s : Shared} {Q : VK} {us : List Value} {vs : List V} (F : FnG X.prog X.w X.K X.mg X.base k f sp) (hk : k ≤ j) (hg : X.A.guards = some []) (hr : Room j X.A) (tk : Takes X W)
    (I : Inv X pins σ H s) (r : Vals vs us) (h : sp vs H Q (WE W σ)) : wpAny (model X.prog X.w) X.A (call (.ref f) us) (EP X pins σ Q) X.xe s := by
  obtain ⟨ps, fd, h1, h2, h3⟩ := F.ex
  have hl : (us ++ []).length = ps.length := by rw [List.append_nil, ← r.length]; exact h2 vs H Q _ h
  have hb := h1 s us I.kIn hl
  rw [List.append_nil] at hb
  refine wpAny_call (codeAny_mono (h3 X.A X.stack s H ⟨us, []⟩ us vs Q (WE W σ) hg (hr.mono hk) I.env0 hb r h) fun r s' hq => ?_)
  match r, hq with
  | .error e, hq => exact passAt tk σ pins H s e s' I hq
  | .ok (.ret u), hq => exact I.after hq
theorem pe_callG (F : FnG X.prog X.w X.K X.mg X.base k f sp) (hj : k ≤ j) (hgs : X.A.guards = some []) (hr : Room j X.A) (hg : Gl X x) (hm : X.mg x = some (.ref f)) (hk : PySem.W.keepIn X.K (.ref f) = true) (tk : Takes X W)
    (ha : PA X (e :: es) t) (hdb : (x == ("__debug__" : Str)) = false := by decide) (he : starEach (e :: es) X.env = (false, eval e X.env) :: starEach es X.env := by rfl) (hpl : (backTo pos (starEach es X.env)).any (·.1) = false := by rfl) :
    PE X (.Call (.Name x p) (e :: es) [] pos) (fun σ H Q => t σ H fun vs H1 => sp vs H1 Q (WE W σ)) := by
  refine ⟨fun pins s σ H Q I h => wpAny_Call_Name_kw (ld_glob I hg hm ?_ hdb)⟩
  exact PySem.W.callWith_K (h₀ := X.base) I.ok.mod.kin hk (thn (ha.run pos pins s σ H _ I h) fun us s1 ⟨vs, H1, I1, r, q⟩ => ⟨I1.kIn, runG F hj hgs hr tk I1 r q⟩) he hpl
theorem pe_callG0 (F : FnG X.prog X.w X.K X.mg X.base k f sp) (hj : k ≤ j) (hgs : X.A.guards = some []) (hr : Room j X.A) (hg : Gl X x) (hm : X.mg x = some (.ref f)) (hk : PySem.W.keepIn X.K (.ref f) = true) (tk : Takes X W)
    (hdb : (x == ("__debug__" : Str)) = false := by decide) : PE X (.Call (.Name x p) [] [] pos) (fun σ H Q => sp [] H Q (WE W σ)) :=
  ⟨fun pins s σ H Q I h => wpAny_Call_Name_kw (ld_glob I hg hm (PySem.W.callWith_K0 I.kIn hk (runG (us := []) F hj hgs hr tk I .nil h)) hdb)⟩
end

/-! ### by trees -/
structure TK (T0 T : Tx) : Prop where
  k : T.K = T0.K
  f : T.fa = T0.fa
  c : T.ca = T0.ca
  n : T.cf = T0.cf
  l : T.kl = T0.kl
abbrev FM := List D → Option Pen → R (D × Nat)
def FPost (T : Tx) (Mo : Addr → Prop) (B : Hp) (r : R (D × Nat)) (Q : VK) (E : XK) : Prop :=
  match r with
  | .ok x p => ∀ v H, RRep T B Mo ⟨x.1, [], [], x.2⟩ p v H → Q v H
  | .exc c fs p => XPost T (fun cls d _ H => E cls d H) B Mo c fs p
  | .bad => False
/-- what a closure does when it is called -/
abbrev TH := Nat → Option Pen → R (D × Nat)
def LamOk (P : Program) (w : World) (K : PySem.W.Frag) (mg : Str → Option Value) (base : Heap) (T : Tx) (th : TH) : Prop :=
  ∀ (n : Nat) (a c : Addr) (A : Around) (out : List PySem.Env) (s : Shared) (H : Hp) (Mo : Addr → Prop) (p : Option Pen) (Q : VK) (E : XK), A.guards = some [] → Room T.kl A → Env0 P w K mg base A out s H →
    H a = some (T.cl n a c) → H c = some (LamX.CodeO c (T.cq n)) → PenRep T Mo p H → (∀ a, Mo a → H a ≠ none) → Cap T Mo H → FPost T Mo (hid T.sp H) (th n p) Q E → PySem.W.FnAt a s.heap ∧ codeAny (model P w) A (.call (.ref a) ⟨[], []⟩) (CR (L2.CX P w) out P w H s Q E) s
def spD (P : Program) (w : World) (K : PySem.W.Frag) (mg : Str → Option Value) (base : Heap) (T0 : Tx) (fm : TH → FM) : Sp := fun vs H Q E =>
  ∃ T Mo ds p th, TK T0 T ∧ PenRep T Mo p H ∧ (∀ a, Mo a → H a ≠ none) ∧ Cap T Mo H ∧ LamOk P w K mg base T th ∧ Rps T (hid Mo H) ds vs ∧ FPost T Mo (hid T.sp H) (fm th ds p) Q E
def startE (n : Nat) (ds : List D) : Env := (ds.map fun d => some ⟨d, 0⟩) ++ List.replicate (n - ds.length) none
/-- a def with np parameters and n slots -/
def runF (np n : Nat) (m : SM) : FM := fun ds p => if ds.length = np then (match m (startE n ds) p with
  | .nx _ p1 => .ok (.non, 0) p1
  | .ret z p1 => .ok (z.d, z.f) p1
  | .exc c fs p1 => .exc c fs p1
  | _ => .bad) else .bad
theorem Cap.start {T : Tx} {Mo : Addr → Prop} {p : Option Pen} {H : Hp} (c : Cap T Mo H) (x : PenRep T Mo p H) : Cap T Mo (hid T.sp H) := by
  refine ⟨fun a o e => ?_, fun a o e => ?_, c.f⟩
  · obtain ⟨h1, h2⟩ := hid_some (c.c a o e)
    rw [hid_out h2, hid_out fun z => h2 (x.mo z).1]
    exact h1
  · have h1 := c.z a o e
    rw [hid_out]
    · exact h1
    · intro z
      obtain ⟨ob, rfl⟩ := c.f a o e
      rcases z with z | ⟨q, z⟩
      · have y := x.pen
        unfold Pen0 at y
        rw [z] at y
        cases p with
        | none => exact y.elim
        | some pp =>
          have y1 : H a = some (.dK (penKvs T.Wc pp)) := y.1
          rw [h1] at y1
          cases y1
      · obtain ⟨_, ps, h2, _⟩ := x.tab a q z
        rw [h1] at h2
        cases h2
theorem start_rep {T : Tx} {H : Hp} {Mo : Addr → Prop} {p : Option Pen} {ds : List D} {vs : List V} {N : List Str} (x : PenRep T Mo p H) (mo : ∀ a, Mo a → H a ≠ none) (cap : Cap T Mo H) (r : Rps T (hid Mo H) ds vs) : SRep T (hid T.sp H) Mo (fun _ => []) (startE N.length ds) p (L2.start N vs) H := by
  refine ⟨by unfold startE L2.start; rw [List.length_append, List.length_append, List.length_map, List.length_map, List.length_replicate, List.length_replicate, r.len], x, mo, hid_sub, fun a e => hid_in e, cap.start x, fun i a h => absurd h (by simp), fun i => List.nodup_nil, fun i j a h => absurd h (by simp), fun i c e => ?_, fun i h => rfl⟩
  unfold startE at e
  by_cases q : i < ds.length
  · rw [List.getElem?_append_left (by rw [List.length_map]; exact q), List.getElem?_map, List.getElem?_eq_getElem q] at e
    cases e
    obtain ⟨v, e1, e2⟩ := r.at_ (List.getElem?_eq_getElem q)
    refine ⟨v, ?_, rfl, Rp.sub (hid_mono fun a h => .inl ?_) _ e2⟩
    · unfold L2.start
      have q' : i < vs.length := by rw [← r.len]; exact q
      rw [List.getElem?_append_left (by rw [List.length_map]; exact q'), List.getElem?_map, e1]
      rfl
    · rcases h with h | ⟨_, _, h⟩
      · exact h
      · cases h
  · rw [List.getElem?_append_right (by rw [List.length_map]; omega), List.getElem?_replicate] at e
    split at e
    · cases e
    · cases e
section
variable {P : Program} {w : World} {K : PySem.W.Frag} {mg : Str → Option Value} {base : Heap} {T0 : Tx}
/-- what a derivation may lean on -/
structure BH (T0 T : Tx) (X : Cx) (k : Nat) (Wx : WX) (th : TH) : Prop where
  tk : TK T0 T
  hK : T.K = X.K
  g : X.A.guards = some []
  r : Room k X.A
  c : X.calm = true
  t : Takes X Wx
  po : PassesOwn (model X.prog X.w) X.A X.env X.xe
  lam : LamOk X.prog X.w X.K X.mg X.base T th
theorem BH.hu {T0 T : Tx} {X : Cx} {k : Nat} {Wx : WX} {th : TH} (h : BH T0 T X k Wx th) : X.A.units + 65 < cLine := by
  have := h.r.un
  omega
theorem BH.blk {T0 T : Tx} {X : Cx} {k : Nat} {Wx : WX} {th : TH} (h : BH T0 T X k Wx th) (s : Shared) (H : Hp) (sc : Scope) (ce : PySem.Env) (fp : List Addr) : BH T0 T (X.blk s H sc ce fp) k WxF th :=
  ⟨h.tk, h.hK, h.g, h.r, h.c, takes0, PassesOwn.never, h.lam⟩
/-- THE RULE for a def by trees -/
theorem fnD {x qual : Str} {st : Stmt} {f : Addr} {fd : FuncData} {N ps : List Str} {k : Nat} {m : TH → SM} (hK : T0.K = K) (F : Fun K x qual st f fd) (S : FnScope N ps (defScope st)) (bd : Binds K fd ps [])
    (body : ∀ (cdv : Value) (A : Around) (out : List PySem.Env) (s : Shared) (H : Hp) (E : XK) (T : Tx) (th : TH), BH T0 T (cxOf (L2.CX P w) P w K mg base N qual (defScope st) f cdv A out s H E) k (fun cls d _ H => E cls d H) th →
      DSs (cxOf (L2.CX P w) P w K mg base N qual (defScope st) f cdv A out s H E) T (fun cls d _ H => E cls d H) (defBody st) (m th)) :
    FnG P w K mg base (k + 1) f (spD P w K mg base T0 fun th => runF ps.length N.length (m th)) := by
  refine fnG_mk F S bd (fun vs H Q E h => ?_) fun cdv A out s H vs Q E hg hr h => ?_
  · obtain ⟨T, Mo, ds, p, th, _, _, _, _, _, r, h⟩ := h
    dsimp only at h
    rw [← r.len]
    unfold runF at h
    by_cases q : ds.length = ps.length
    · exact q
    · rw [if_neg q] at h
      exact h.elim
  · obtain ⟨T, Mo, ds, p, th, tk, xp, mo, cap, lam, r, h⟩ := h
    refine ⟨_, body cdv A out s H E T th ⟨tk, tk.k.trans hK, hg, hr, rfl, takes_of rfl rfl rfl rfl, passes_of rfl, lam⟩, hid T.sp H, Mo, fun _ => [], startE N.length ds, p, start_rep xp mo cap r, ?_⟩
    dsimp only at h
    unfold runF at h
    by_cases q : ds.length = ps.length
    · rw [if_pos q] at h
      cases e : m th (startE N.length ds) p with
      | nx ρ p1 =>
        rw [e] at h
        intro fp σ H' s'
        exact h _ _ ⟨s'.grow, s'.pen, s'.mo, [], ⟨rfl, rfl⟩, List.nodup_nil, fun a ha => absurd ha (by simp)⟩
      | ret z p1 =>
        rw [e] at h
        exact fun v H' rr => h v H' ⟨rr.grow, rr.pen, rr.mo, rr.own⟩
      | exc c fs p1 =>
        rw [e] at h
        exact h
      | brk ρ p1 =>
        rw [e] at h
        exact h.elim
      | cnt ρ p1 =>
        rw [e] at h
        exact h.elim
      | bad =>
        rw [e] at h
        exact h.elim
    · rw [if_neg q] at h
      exact h.elim
end
/-- a call: what comes back may hold what was passed -/
def eCall (fm : FM) (g : M (List Z)) : M Z := fun ρ p => (g ρ p).bind fun zs p1 => (fm (zs.map (·.d)) p1).bind fun x p2 => .ok ⟨x.1, zs.flatMap (·.lo), zs.flatMap (·.lo), x.2⟩ p2
section
variable {X : Cx} {k j : Nat} {f : Addr} {fm : TH → FM} {th : TH} {x : Str} {p pos : Pos} {e : Expr} {es : List Expr} {g : M (List Z)} {T0 T : Tx} {Wx : WX}
theorem _root_.DL.SRep.capNow {H0 H : Hp} {Mo : Addr → Prop} {fp : Nat → List Addr} {ρ : Env} {p : Option Pen} {σ : L2.St} {b : List Nat} (s : SRep T H0 Mo fp ρ p σ H) : Cap T (Hd Mo fp b) H := by
  refine ⟨fun a o e => ?_, s.cap.z.trans s.grow, s.cap.f⟩
  obtain ⟨h1, h2⟩ := hid_some (s.cap.c a o e)
  rw [hid_out]
  · exact s.grow a o h1
  · intro z
    rcases z with z | ⟨i, _, z⟩
    · exact h2 z
    · rw [(s.fresh i a z).1] at h1
      cases h1
theorem call_core {H0 H H1 : Hp} {Mo : Addr → Prop} {fp : Nat → List Addr} {ρ : Env} {pp p1 : Option Pen} {σ : L2.St} {Q : VK} {zs : List Z} {vs : List V} (tk : TK T0 T) (lam : LamOk X.prog X.w X.K X.mg X.base T th) (s : SRep T H0 Mo fp ρ pp σ H) (g1 : Gr T H H1) (x1 : PenRep T Mo p1 H1) (zr : ZReps T Mo fp H1 zs vs)
    (h : EPost T Wx H0 Mo fp H H ((fm th (zs.map (·.d)) p1).bind fun x p2 => .ok ⟨x.1, zs.flatMap (·.lo), zs.flatMap (·.lo), x.2⟩ p2) fun _ _ v H' => Q v H') : spD X.prog X.w X.K X.mg X.base T0 fm vs H1 Q (WE Wx σ) := by
  have s1 := s.grows g1 x1
  refine ⟨T, Hd Mo fp (zs.flatMap (·.lo)), zs.map (·.d), p1, th, tk, x1.more (fun a h => .inl h) (fun c q e h => h.elim id fun ⟨i, _, h⟩ => by
    obtain ⟨o, e1, e2⟩ := s1.ld i c h
    rw [e] at e1
    cases e1
    exact (code_ld e2).elim), fun a h => s1.hdThere h, s1.capNow, lam, zr.rps fun z hz i hi => List.mem_flatMap.mpr ⟨z, hz, hi⟩, ?_⟩
  have back : ∀ {H' : Hp}, Sub (hid T.sp H1) H' → Gr T H1 H' := fun sub a o e n => sub a o (by rw [hid_out n]; exact e)
  cases ef : fm th (zs.map (·.d)) p1 with
  | bad =>
    rw [ef] at h
    exact h.elim
  | exc c fs p2 =>
    rw [ef] at h
    have h : XPost T Wx H0 Mo c fs p2 := h
    intro _ H' d vs' sub xp th hd hl r
    refine h σ H' d vs' (s1.sub_bs.trans ?_) (xp.less s.pen fun a h => .inl h) (fun a ha => th a (.inl ha)) hd hl (Rps.sub (hid_mono fun a q => .inl (.inl q)) fs r)
    exact (Sub.trans (fun a o e => (hid_mono (S := fun a => T.sp a ∨ ∃ i, a ∈ fp i) (S' := T.sp) (H := H1) fun a q => .inl (.inl q)) a o e) sub)
  | ok y p2 =>
    rw [ef] at h
    intro v H' rr
    obtain ⟨as, o1, o2, o3⟩ := rr.own
    have gb := back rr.grow
    have nw : ∀ a ∈ as, H1 a = none := fun a ha => by
      cases e : H1 a with
      | none => rfl
      | some o =>
        have := (o3 a ha).1
        by_cases q : T.sp a
        · exact absurd (.inl (x1.mo q).1) (o3 a ha).2
        · rw [hid_out q, e] at this
          cases this
    refine h v H' (g1.trans gb) (rr.pen.less s.pen fun a h => .inl h) ⟨.of (o1.rp (hid_mono fun a q => .inl (.inl q)) _ fun a ha o ho => ?_), fun _ => ⟨as, o1, o2, fun a ha => g1.back (nw a ha) fun z => s1.nw a z (nw a ha)⟩⟩
    rw [hid_out (o3 a ha).2]
    exact ho
theorem de_call (b : BH T0 T X j Wx th) (F : FnG X.prog X.w X.K X.mg X.base k f (spD X.prog X.w X.K X.mg X.base T0 fm)) (hj : k ≤ j) (hg : Gl X x) (hm : X.mg x = some (.ref f)) (hk : PySem.W.keepIn X.K (.ref f) = true) (ha : DA X T Wx (e :: es) g)
    (hdb : (x == ("__debug__" : Str)) = false := by decide) (he : starEach (e :: es) X.env = (false, eval e X.env) :: starEach es X.env := by rfl) (hpl : (backTo pos (starEach es X.env)).any (·.1) = false := by rfl) : DE X T Wx (.Call (.Name x p) (e :: es) [] pos) (eCall (fm th) g) :=
  (pe_callG F hj b.g b.r hg hm hk b.t ha hdb he hpl).mono fun σ H Q h => by
    obtain ⟨H0, Mo, fp, ρ, pp, s, h⟩ := h
    refine ⟨H0, Mo, fp, ρ, pp, s, ?_⟩
    unfold eCall at h
    cases e : g ρ pp with
    | bad =>
      rw [e] at h
      exact h.elim
    | exc c fs p1 =>
      rw [e] at h
      exact h
    | ok zs p1 =>
      rw [e] at h
      exact fun vs H1 g1 x1 zr => call_core b.tk b.lam s g1 x1 zr h
theorem de_call0 (b : BH T0 T X j Wx th) (F : FnG X.prog X.w X.K X.mg X.base k f (spD X.prog X.w X.K X.mg X.base T0 fm)) (hj : k ≤ j) (hg : Gl X x) (hm : X.mg x = some (.ref f)) (hk : PySem.W.keepIn X.K (.ref f) = true) (hdb : (x == ("__debug__" : Str)) = false := by decide) : DE X T Wx (.Call (.Name x p) [] [] pos) (eCall (fm th) aNil) :=
  (pe_callG0 F hj b.g b.r hg hm hk b.t hdb).mono fun σ H Q h => by
    obtain ⟨H0, Mo, fp, ρ, pp, s, h⟩ := h
    exact call_core b.tk b.lam s (.refl H) s.pen .nil h
end
end DL
set_option Elab.async false
set_option linter.all false
set_option maxRecDepth 100000
set_option maxHeartbeats 2000000
/-! # The data layer, part 12: errors with fields are raised -/
namespace DL
open PySem PySem.Spec PyProof.Rows L2

/-- the base class of the text's errors, at B -/
structure ErrB (K : PySem.W.Frag) (mg : Str → Option Value) (nm : Str) (B : Addr) : Prop where
  g : mg nm = some (.ref B)
  sp : PySem.W.specialIn K (.ref B) "__getattribute__" = some (some (.builtin "type.__getattribute__"))
  rd : PySem.W.readsIn K B (.type "type") = true
  fc : PySem.W.findCls K (.ref B) (.type "type") "__init__" = some (.val (.builtin "ValueError.__init__"))
theorem pe_binit {X : Cx} {e : Expr} {es : List Expr} {ta : TA} {nm : Str} {B : Addr} {p1 p2 pos : Pos} {pl : Sem Bool} (b : ErrB X.K X.mg nm B) (hg : Gl X nm) (ha : PA X (e :: es) ta) (hdb : (nm == ("__debug__" : Str)) = false := by decide)
    (hc : eval (.Call (.Attribute (.Name nm p1) "__init__" p2) (e :: es) [] pos) X.env = (do
      let ov ← eval (.Name nm p1) X.env
      standAt p2.atName
      let (f, first) ← holding [ov] (getMethod ov "__init__" pl)
      callWith pos f first (backTo pos (starEach (e :: es) X.env)) (backToKw pos (keywordEach [] X.env))) := by rfl)
    (he : starEach (e :: es) X.env = (false, eval e X.env) :: starEach es X.env := by rfl) (hpl : (backTo pos (starEach es X.env)).any (·.1) = false := by rfl) : PE X (.Call (.Attribute (.Name nm p1) "__init__" p2) (e :: es) [] pos) (tVeI X.K ta) := by
  refine ⟨fun pins s σ H Q I h => PySem.W.methodCall_KW (ld_glob I hg b.g ?_ hdb) hc⟩
  refine PySem.W.method_cls I.kIn b.sp (PySem.W.cls_value I.kIn b.rd b.fc (by decide +kernel) ?_)
  show wpAny _ _ (callWith pos (Value.builtin "ValueError.__init__") [] (backTo pos (starEach (e :: es) X.env)) []) _ _ _
  refine PyProof.Rows.callWith_method1 (thn (ha.run pos pins _ σ H _ (I.tok _) h) fun us s1 ⟨vs, H1, I1, r1, a, C, ws, ev, hl, T, ea, q⟩ => ?_) he hpl
  subst ev
  match us, r1 with
  | u0 :: ur, .cons ra rw' =>
    obtain rfl : u0 = Value.ref a := ra
    exact oinit_ok T I1 ea (by rw [← Paired.length rw', sizeLine_eq]; omega) fun s' J => ⟨.non, H1, J, rfl, q⟩
/-- __init__ puts its arguments into the fields fl -/
def spInit (K : PySem.W.Frag) (C : Addr) (fl : List Str) : Sp := fun vs H Q _ => ∃ (a : Addr) (ws : List V), vs = .ref a :: ws ∧ ws.length = fl.length ∧ OexC K C ∧ (∀ f ∈ fl, PySem.W.findIn K (.ref C) f = some none) ∧ H a = some (exo a C none) ∧
  ∀ (d : Addr) (H2 : Hp), H d = none → d ≠ a → H2 a = some (exo a C (some d)) → H2 d = some (exd d (fl.reverse.zip ws.reverse)) → (∀ b, b ≠ a → b ≠ d → H2 b = H b) → Q .non H2
/-- a class of errors of the text -/
structure ErrOk (P : Program) (w : World) (K : PySem.W.Frag) (mg : Str → Option Value) (base : Heap) (C : Addr) (nm : Str) (fl : List Str) : Prop where
  g : mg nm = some (.ref C)
  oex : OexC K C
  no : ∀ f ∈ fl, PySem.W.findIn K (.ref C) f = some none
  run : ∃ fI fd ps, PySem.W.findIn K (.ref C) "__init__" = some (some (.ref fI)) ∧ PySem.W.typeIn K (.ref fI) = some (.type "function") ∧ Binds K fd ps [] ∧ FnOk P w K mg base CX0 1 fI fd ps (spInit K C fl)
def sRaise (c n : Nat) (g : M (List Z)) : SM := fun ρ p => (g ρ p).thenO fun zs p1 => if zs.length = n then .exc c (zs.map (·.d)).reverse p1 else .bad
theorem Rps.rev' {T : Tx} {F : Hp} : ∀ {ds : List D} {vs : List V}, Rps T F ds vs → Rps T F ds.reverse vs.reverse
  | [], vs, h => by
    have h : vs = [] := h
    rw [h]
    rfl
  | d :: ds, vs, h => by
    obtain ⟨v, r, rfl, h2, h3⟩ := h
    rw [List.reverse_cons, List.reverse_cons]
    exact h3.rev'.app ⟨v, [], rfl, h2, rfl⟩
theorem ds_raise {X : Cx} {T0 T : Tx} {Wx : WX} {th : TH} {k c n : Nat} {nm : Str} {fl : List Str} {e : Expr} {es : List Expr} {g : M (List Z)} {p pos pos2 : Pos} (b : BH T0 T X k Wx th) (hk : 2 ≤ k) (E : ErrOk X.prog X.w X.K X.mg X.base (T.ca c) nm fl) (hcf : T.cf c = fl.reverse) (hn : fl.length = n) (hn2 : n ≤ 1000) (hg : Gl X nm)
    (ha : DA X T Wx (e :: es) g) (hdb : (nm == ("__debug__" : Str)) = false := by decide) (he : starEach (e :: es) X.env = (false, eval e X.env) :: starEach es X.env := by rfl) (hpl : (backTo pos (starEach es X.env)).any (·.1) = false := by rfl) :
    DS X T Wx (.Raise (some (.Call (.Name nm p) (e :: es) [] pos)) none pos2) (sRaise c n g) := by
  obtain ⟨fI, fd, ps, r1, r2, r3, r4⟩ := E.run
  refine (ps_raise b.c b.t (pmk_oex E.oex r1 r2 r4 (b.r.mono hk) r3 .nil (fun _ _ _ _ _ _ _ h => h.elim) hg E.g ha hdb he hpl)).mono fun D σ H h => ?_
  obtain ⟨H0, Mo, fp, ρ, pp, s, h⟩ := h
  refine ⟨H0, Mo, fp, ρ, pp, s, ?_⟩
  unfold sRaise at h
  cases e1 : g ρ pp with
  | bad =>
    rw [e1] at h
    exact h.elim
  | exc c fs p1 =>
    rw [e1] at h
    exact h
  | ok zs p1 =>
    rw [e1] at h
    intro vs H1 g1 x1 zr
    have h : SPost T Wx H0 Mo (if zs.length = n then .exc c (zs.map (·.d)).reverse p1 else .bad) D := h
    by_cases q : zs.length = n
    · rw [if_pos q] at h
      have lv : vs.length = fl.length := by rw [← zr.len, q, hn]
      have s1 := s.grows g1 x1
      refine ⟨by rw [lv, hn]; exact hn2, fun a na => ⟨a, vs ++ [], rfl, by rw [List.append_nil]; exact lv, E.oex, E.no, upd_same, fun d H2 nd ne ea ed ho => ⟨rfl, d, _, ea, ed, ?_, ?_⟩⟩⟩
      · rw [upd_ne ne] at nd
        exact nd
      · rw [List.append_nil] at *
        have nd1 : H1 d = none := by
          rw [upd_ne ne] at nd
          exact nd
        have sub : Sub H1 (upd (del H2 a) d (.xd (fl.reverse.zip vs.reverse))) := fun b o eb => by
          have n1 : b ≠ d := fun z => by rw [z, nd1] at eb; cases eb
          have n2 : b ≠ a := fun z => by rw [z, na] at eb; cases eb
          rw [upd_ne n1, del_ne n2, ho b n2 n1, upd_ne n2]
          exact eb
        have h : XPost T Wx H0 Mo c (zs.map (·.d)).reverse p1 := h
        have s2 := s1.grows (.of sub) (x1.sub sub)
        refine h σ _ d vs.reverse s2.grow s2.pen s2.mo ?_ ?_ (Rps.rev' (Rps.sub (hid_step (fun b o eb _ => sub b o eb) fun b z => .inl (.inl z)) _ (zr.rps (b := zs.flatMap (·.lo)) fun z hz i hi => List.mem_flatMap.mpr ⟨z, hz, hi⟩)))
        · rw [upd_same, hcf]
        · rw [hcf, List.length_reverse, List.length_reverse, lv]
    · rw [if_neg q] at h
      exact h.elim

/-! ### how the fields are set -/
def tIni (K : PySem.W.Frag) : List Str → Nat → TS
  | [], _ => tNext
  | f :: fs, i => tSeq (tOst K f (tVar 0) (tVar i)) (tIni K fs (i + 1))
theorem zip_rev : ∀ (fs : List Str) (ys : List V), fs.length = ys.length → (fs.zip ys).reverse = fs.reverse.zip ys.reverse
  | [], [], _ => rfl
  | f :: fs, y :: ys, h => by
    have h : fs.length = ys.length := by simpa using h
    rw [List.zip_cons_cons, List.reverse_cons, List.reverse_cons, List.reverse_cons, zip_rev fs ys h, List.zip_append (by rw [List.length_reverse, List.length_reverse, h])]
    rfl
section
variable {K : PySem.W.Frag} {C a : Addr} {D : Ends} {σ : L2.St}
theorem ini_run (T : OexC K C) (h0 : σ[0]? = some (some (.ref a))) : ∀ (fs : List Str) (ys : List V) (i : Nat) (d : Addr) (acc : List (Str × V)) (H : Hp), H a = some (exo a C (some d)) → H d = some (exd d acc) → d ≠ a → acc.length + fs.length ≤ 900 →
    (∀ (j : Nat) (y : V), ys[j]? = some y → σ[i + j]? = some (some y)) → fs.length = ys.length → (∀ f ∈ fs, PySem.W.findIn K (.ref C) f = some none) →
    (∀ H2 : Hp, H2 a = some (exo a C (some d)) → H2 d = some (exd d ((fs.zip ys).reverse ++ acc)) → (∀ b, b ≠ a → b ≠ d → H2 b = H b) → D.nx σ H2) → tIni K fs i D σ H
  | [], [], i, d, acc, H, ea, ed, ne, hl, hy, _, no, q => q H ea (by simpa using ed) fun b _ _ => rfl
  | f :: fs, y :: ys, i, d, acc, H, ea, ed, ne, hl, hy, le, no, q => by
    have e1 : σ[i]? = some (some y) := hy 0 y rfl
    have hl' : acc.length + (fs.length + 1) ≤ 900 := hl
    refine ⟨y, e1, .ref a, h0, a, C, rfl, T, no f List.mem_cons_self, .inr ⟨d, acc, ea, ed, by omega, ?_⟩⟩
    refine ini_run T h0 fs ys (i + 1) d ((f, y) :: acc) _ (by rw [upd_ne ne.symm]; exact ea) upd_same ne (by rw [List.length_cons]; omega) (fun j z hz => by rw [show i + 1 + j = i + (j + 1) by omega]; exact hy (j + 1) z (by simpa using hz)) (by simpa using le) (fun g hg => no g (List.mem_cons_of_mem _ hg)) fun H2 k1 k2 k3 => q H2 k1 ?_ fun b n1 n2 => ?_
    · rw [k2, List.zip_cons_cons, List.reverse_cons, List.append_assoc]
      rfl
    · rw [k3 b n1 n2, upd_ne n2]
/-- the body of such an __init__, read -/
theorem ini_read {fl : List Str} {vs : List V} {H : Hp} {Q : VK} {E : XK} {txt : Str} (hl : fl ≠ []) (h9 : fl.length ≤ 900) (h : spInit K C fl vs H Q E) :
    tSeq (tDrop (tVeI K (tCons (tVar 0) (tCons (tC (.str txt)) tNil)))) (tIni K fl 1) { nx := fun _ H' => Q .non H', rt := Q } (L2.start ("self" :: fl) vs) H := by
  obtain ⟨a, ws, rfl, lw, T, no, ea, q⟩ := h
  have es : L2.start ("self" :: fl) (V.ref a :: ws) = some (V.ref a) :: ws.map some := by
    unfold L2.start
    rw [List.length_cons, List.length_cons, lw, Nat.sub_self, List.replicate_zero, List.append_nil, List.map_cons]
  rw [es]
  refine ⟨.ref a, rfl, a, C, [V.str txt], rfl, (by show 1 ≤ 1000; decide), T, ea, ?_⟩
  cases fl with
  | nil => exact absurd rfl hl
  | cons f fs =>
    cases ws with
    | nil => simp at lw
    | cons y ys =>
      have le : fs.length = ys.length := by simpa using lw.symm
      have h9 : fs.length + 1 ≤ 900 := h9
      refine ⟨y, rfl, .ref a, rfl, a, C, rfl, T, no f List.mem_cons_self, .inl ⟨ea, fun d nd ne => ?_⟩⟩
      refine ini_run T rfl fs ys 2 d [(f, y)] _ upd_same (by rw [upd_ne ne, upd_same]) ne (by show 1 + fs.length ≤ 900; omega) (fun j z hz => ?_) le (fun g hg => no g (List.mem_cons_of_mem _ hg)) fun H2 k1 k2 k3 => q d H2 nd ne k1 ?_ fun b n1 n2 => ?_
      · rw [show 2 + j = (j + 1) + 1 by omega, List.getElem?_cons_succ, List.map_cons, List.getElem?_cons_succ, List.getElem?_map, hz]
        rfl
      · rw [k2, ← zip_rev _ _ lw.symm, List.zip_cons_cons, List.reverse_cons]
      · rw [k3 b n1 n2, upd_ne n1, upd_ne n2]
end
section
variable {P : Program} {w : World} {K : PySem.W.Frag} {mg : Str → Option Value} {base : Heap}
/-- a class of errors stands as its __init__ says -/
theorem err_mk {C fI : Addr} {nm qual : Str} {fl : List Str} {st : Stmt} {fd : FuncData} {txt : Str} (F : Fun K "__init__" qual st fI fd) (S : FnScope ("self" :: fl) ("self" :: fl) (defScope st)) (bd : Binds K fd ("self" :: fl) []) (hl : fl ≠ []) (h9 : fl.length ≤ 900)
    (g : mg nm = some (.ref C)) (oex : OexC K C) (no : ∀ f ∈ fl, PySem.W.findIn K (.ref C) f = some none) (ini : PySem.W.findIn K (.ref C) "__init__" = some (some (.ref fI))) (ty : PySem.W.typeIn K (.ref fI) = some (.type "function"))
    (body : ∀ (cdv : Value) (A : Around) (out : List PySem.Env) (s : Shared) (H : Hp) (E : XK), PSs (cxOf CX0 P w K mg base ("self" :: fl) qual (defScope st) fI cdv A out s H E).nox (defBody st) (tSeq (tDrop (tVeI K (tCons (tVar 0) (tCons (tC (.str txt)) tNil)))) (tIni K fl 1))) :
    ErrOk P w K mg base C nm fl :=
  ⟨g, oex, no, fI, fd, "self" :: fl, ini, ty, bd, F.ok S (fun vs H Q E h => by
    obtain ⟨a, ws, rfl, lw, _⟩ := h
    rw [List.length_cons, List.length_cons, lw]) fun cdv A out s H vs Q E hr h => ⟨_, body cdv A out s H E, ini_read hl h9 h⟩⟩
end
end DL
set_option Elab.async false
set_option linter.all false
set_option maxRecDepth 100000
set_option maxHeartbeats 2000000
/-! # The data layer, part 13: the pen that draws -/
namespace DL
open PySem PySem.Spec PyProof.Rows L2

theorem nk {x y : Str} (h : x ≠ y) : ¬ (Sum.inr x : Key) = Sum.inr y := fun e => h (Sum.inr.inj e)
theorem penV (a : Addr) (q : Pen) : valV (penKvs a q) (.inr "cells") = some (.ref a) ∧ valV (penKvs a q) (.inr "at") = some (.int q.at_) ∧ valV (penKvs a q) (.inr "digits") = some (.int q.digits) ∧ valV (penKvs a q) (.inr "count") = some (.int q.count) ∧ valV (penKvs a q) (.inr "fold") = some (.int q.fold) := by
  unfold penKvs
  refine ⟨valV_pos rfl, ?_, ?_, ?_, ?_⟩
  · rw [valV_neg (nk (by decide)), valV_pos rfl]
  · rw [valV_neg (nk (by decide)), valV_neg (nk (by decide)), valV_pos rfl]
  · rw [valV_neg (nk (by decide)), valV_neg (nk (by decide)), valV_neg (nk (by decide)), valV_pos rfl]
  · rw [valV_neg (nk (by decide)), valV_neg (nk (by decide)), valV_neg (nk (by decide)), valV_neg (nk (by decide)), valV_pos rfl]
theorem penP (a : Addr) (q : Pen) (n : Int) : putK (penKvs a q) (.inr "at") (.int n) = penKvs a { q with at_ := n } ∧ putK (penKvs a q) (.inr "digits") (.int n) = penKvs a { q with digits := n } ∧ putK (penKvs a q) (.inr "count") (.int n) = penKvs a { q with count := n } ∧ putK (penKvs a q) (.inr "fold") (.int n) = penKvs a { q with fold := n } := by
  obtain ⟨_, h2, h3, h4, h5⟩ := penV a q
  have k : ∀ (x : Str), (valV (penKvs a q) (.inr x)).isSome = true → ∀ v, putK (penKvs a q) (.inr x) v = (penKvs a q).map (fun kv => if kv.1 = .inr x then (kv.1, v) else kv) := fun x hx v => by
    unfold putK
    rw [valV_any, if_pos hx]
  refine ⟨?_, ?_, ?_, ?_⟩
  · rw [k _ (by rw [h2]; rfl)]
    simp only [penKvs, List.map_cons, List.map_nil, if_neg (nk (x := "cells") (y := "at") (by decide)), if_neg (nk (x := "digits") (y := "at") (by decide)), if_neg (nk (x := "count") (y := "at") (by decide)), if_neg (nk (x := "fold") (y := "at") (by decide)), if_true]
  · rw [k _ (by rw [h3]; rfl)]
    simp only [penKvs, List.map_cons, List.map_nil, if_neg (nk (x := "cells") (y := "digits") (by decide)), if_neg (nk (x := "at") (y := "digits") (by decide)), if_neg (nk (x := "count") (y := "digits") (by decide)), if_neg (nk (x := "fold") (y := "digits") (by decide)), if_true]
  · rw [k _ (by rw [h4]; rfl)]
    simp only [penKvs, List.map_cons, List.map_nil, if_neg (nk (x := "cells") (y := "count") (by decide)), if_neg (nk (x := "digits") (y := "count") (by decide)), if_neg (nk (x := "at") (y := "count") (by decide)), if_neg (nk (x := "fold") (y := "count") (by decide)), if_true]
  · rw [k _ (by rw [h5]; rfl)]
    simp only [penKvs, List.map_cons, List.map_nil, if_neg (nk (x := "cells") (y := "fold") (by decide)), if_neg (nk (x := "digits") (y := "fold") (by decide)), if_neg (nk (x := "count") (y := "fold") (by decide)), if_neg (nk (x := "at") (y := "fold") (by decide)), if_true]

def penAt (i : Nat) (ρ : Env) (p : Option Pen) : Option Pen := match ρ[i]? with
  | some (some c) => match c.d with | .pen => p | _ => none
  | _ => none
def ePenI (i : Nat) (sel : Pen → Int) : M Z := fun ρ p => match penAt i ρ p with | some q => .ok (zS (.int (sel q))) p | none => .bad
def ePenLen (i : Nat) : M Z := fun ρ p => match penAt i ρ p with | some q => .ok (zS (.int q.cells.length)) p | none => .bad
def ePenCell (i : Nat) (g : M Z) : M Z := fun ρ p => match penAt i ρ p with
  | some q => (g ρ p).bind fun y p1 => match y.d with
    | .int k => match p1 with
      | some q1 => (match atI q1.cells k with | some c => .ok (zS (.int c)) p1 | none => .bad)
      | none => .bad
    | _ => .bad
  | none => .bad
def sPenSet (i : Nat) (put : Pen → Int → Pen) (fe : M Z) : SM := fun ρ p => (fe ρ p).thenO fun z p1 => match penAt i ρ p1, z.d with | some q, .int n => .nx ρ (some (put q n)) | _, _ => .bad
section
variable {X : Cx} {T : Tx} {Wx : WX} {pos : Pos} {i : Nat} {x : Str} {p1 p2 p3 p4 : Pos} {k1 : Nat} {e : Expr} {fe g : M Z}
theorem pen_at {H0 H : Hp} {Mo : Addr → Prop} {fp : Nat → List Addr} {ρ : Env} {p : Option Pen} {σ : L2.St} {q : Pen} (s : SRep T H0 Mo fp ρ p σ H) (e : penAt i ρ p = some q) :
    ∃ a, T.W = some a ∧ p = some q ∧ σ[i]? = some (some (.ref a)) ∧ H a = some (.dK (penKvs T.Wc q)) ∧ H T.Wc = some (.lst (q.cells.map V.int)) ∧ T.Wc ≠ a := by
  unfold penAt at e
  split at e
  · rename_i c ec
    split at e
    · rename_i ed
      obtain ⟨v, e1, r⟩ := s.cell i c ec
      have r := r.rp (G := H) hid_sub _ fun _ _ _ h => h
      rw [ed] at r
      obtain ⟨a, rfl, hW⟩ := r
      have x := s.pen.pen
      unfold Pen0 at x
      rw [hW, e] at x
      exact ⟨a, hW, e, e1, x.1, x.2.1, x.2.2.2.2⟩
    · cases e
  · cases e
/-- pen["k"], a number -/
theorem de_penI {key : Str} {sel : Pen → Int} (hu : X.A.units + 65 < cLine) (hk : ∀ a q, valV (penKvs a q) (.inr key) = some (.int (sel q))) (hN : X.N[i]? = some x := by rfl) (hv : Vis X.env.scope x := by first | exact Or.inl rfl | exact Or.inr (Or.inl rfl) | exact Or.inr (Or.inr rfl)) (hd : (x == ("__debug__" : Str)) = false := by decide)
    (hcd : (x == ("__classdict__" : Str)) = false := by decide) (hs : NoSl (.Constant (.str key) k1 p2) := by intro _ _; rfl) : DE X T Wx (.Subscript (.Name x p1) (.Constant (.str key) k1 p2) pos) (ePenI i sel) :=
  (pe_dget (by omega) (pe_var (i := i) hN hv hd hcd) pe_str hs).mono fun σ H Q h => by
    obtain ⟨H0, Mo, fp, ρ, p, s, h⟩ := h
    unfold ePenI at h
    split at h
    · rename_i q e
      obtain ⟨a, _, _, e1, e2, _⟩ := pen_at s e
      exact ⟨_, e1, a, .int (sel q), rfl, (by have := DGet.k (k := .inr key) e2; rw [hk] at this; exact this), h _ H (.refl H) s.pen (.scalar fun _ => rfl)⟩
    · exact h.elim
/-- len(pen["cells"]) -/
theorem de_penLen (hu : X.A.units + 65 < cLine) (hg : Gl X "len") (hm : X.mg "len" = none) (hN : X.N[i]? = some x := by rfl) (hv : Vis X.env.scope x := by first | exact Or.inl rfl | exact Or.inr (Or.inl rfl) | exact Or.inr (Or.inr rfl)) (hd : (x == ("__debug__" : Str)) = false := by decide)
    (hcd : (x == ("__classdict__" : Str)) = false := by decide) (hs : NoSl (.Constant (.str "cells") k1 p2) := by intro _ _; rfl)
    (he : starEach [.Subscript (.Name x p1) (.Constant (.str "cells") k1 p2) p3] X.env = (false, eval (.Subscript (.Name x p1) (.Constant (.str "cells") k1 p2) p3) X.env) :: starEach [] X.env := by rfl) :
    DE X T Wx (.Call (.Name "len" p4) [.Subscript (.Name x p1) (.Constant (.str "cells") k1 p2) p3] [] pos) (ePenLen i) :=
  (pe_callB call_len_seq hg hm PySem.boot_len (pa_cons (pe_dget (by omega) (pe_var (i := i) hN hv hd hcd) pe_str hs) pa_nil he)).mono fun σ H Q h => by
    obtain ⟨H0, Mo, fp, ρ, p, s, h⟩ := h
    unfold ePenLen at h
    split at h
    · rename_i q e
      obtain ⟨a, _, _, e1, e2, e3, _⟩ := pen_at s e
      refine ⟨_, e1, a, .ref T.Wc, rfl, (by have := DGet.k (k := .inr "cells") e2; rw [(penV _ _).1] at this; exact this), T.Wc, _, rfl, .inl (.inl (.inl e3)), ?_⟩
      rw [List.length_map]
      exact h _ H (.refl H) s.pen (.scalar fun _ => rfl)
    · exact h.elim
/-- pen["cells"][e] -/
theorem de_penCell (hu : X.A.units + 65 < cLine) (he : DE X T Wx e g) (hN : X.N[i]? = some x := by rfl) (hv : Vis X.env.scope x := by first | exact Or.inl rfl | exact Or.inr (Or.inl rfl) | exact Or.inr (Or.inr rfl)) (hd : (x == ("__debug__" : Str)) = false := by decide)
    (hcd : (x == ("__classdict__" : Str)) = false := by decide) (hs : NoSl (.Constant (.str "cells") k1 p2) := by intro _ _; rfl) (hs2 : PlainIx e := by exact fun _ _ => rfl) :
    DE X T Wx (.Subscript (.Subscript (.Name x p1) (.Constant (.str "cells") k1 p2) p3) e pos) (ePenCell i g) :=
  (pe_ix ix_list (pe_dget (by omega) (pe_var (i := i) hN hv hd hcd) pe_str hs) he hs2).mono fun σ H Q h => by
    obtain ⟨H0, Mo, fp, ρ, p, s, h⟩ := h
    unfold ePenCell at h
    split at h
    · rename_i q eq
      obtain ⟨a, hW, _, e1, e2, e3, _⟩ := pen_at s eq
      refine ⟨_, e1, a, .ref T.Wc, rfl, (by have := DGet.k (k := .inr "cells") e2; rw [(penV _ _).1] at this; exact this), H0, Mo, fp, ρ, p, s, (EPost.bind h).imp fun y p1 vy H1 eg g1 x1 zy h => ?_⟩
      clear eg
      split at h
      · rename_i k ey
        split at h
        · rename_i q1
          split at h
          · rename_i c ec
            have x2 := x1.pen
            unfold Pen0 at x2
            rw [hW] at x2
            refine ⟨T.Wc, _, k, .int c, rfl, int_of zy ey, .inl (.inl x2.2.1), ?_, h _ H1 (.refl H1) x1 (.scalar fun _ => rfl)⟩
            unfold atI at ec ⊢
            rw [List.length_map]
            cases ei : ixN q1.cells.length k with
            | none =>
              rw [ei] at ec
              cases ec
            | some j =>
              rw [ei] at ec
              show (q1.cells.map V.int)[j]? = some (V.int c)
              rw [List.getElem?_map]
              have ec : q1.cells[j]? = some c := ec
              rw [ec]
              rfl
          · exact h.elim
        · exact h.elim
      · exact h.elim
    · exact h.elim
/-- pen["k"] = e, a number -/
theorem ds_penSet {key : Str} {put : Pen → Int → Pen} (hu : X.A.units + 65 < cLine) (hp : ∀ a q n, putK (penKvs a q) (.inr key) (.int n) = penKvs a (put q n)) (hcl : ∀ q n, (put q n).cells = q.cells) (he : DE X T Wx e fe) (hN : X.N[i]? = some x := by rfl) (hv : Vis X.env.scope x := by first | exact Or.inl rfl | exact Or.inr (Or.inl rfl) | exact Or.inr (Or.inr rfl)) (hd : (x == ("__debug__" : Str)) = false := by decide)
    (hcd : (x == ("__classdict__" : Str)) = false := by decide) (hs : swapsWith e (some (.Subscript (.Name x p1) (.Constant (.str key) k1 p2) p3)) pos.line X.env = pure false := by rfl) :
    DS X T Wx (.Assign [.Subscript (.Name x p1) (.Constant (.str key) k1 p2) p3] e pos) (sPenSet i put fe) :=
  (ps_dput (by omega) (pe_var (i := i) hN hv hd hcd) pe_str he hs).mono fun D σ H h => by
    obtain ⟨H0, Mo, fp, ρ, p, s, h⟩ := h
    refine ⟨H0, Mo, fp, ρ, p, s, (SPost.bind (Hs := H) (H := H) h).imp fun z p1 v H1 _ g1 x1 zr h => ?_⟩
    have s1 := s.grows g1 x1
    split at h
    · rename_i q n e1 e2
      obtain ⟨a, hW, rfl, h1, h2, h3, h4⟩ := pen_at s1 e1
      rw [int_of zr e2]
      refine ⟨_, h1, a, _, rfl, DPut.k (k := .inr key) h2 (by show 5 < sizeLine; exact lim_lt (by decide)), ?_⟩
      rw [hp]
      refine h fp σ _ (s1.grows (fun b o eb nb => ?_) ⟨?_, fun b q' h' => ⟨(x1.tab b q' h').1, ?_⟩⟩)
      · rw [upd_ne fun z => nb (.inl (by rw [z]; exact hW))]
        exact eb
      · have x2 := x1.pen
        unfold Pen0 at x2 ⊢
        rw [hW] at x2 ⊢
        refine ⟨upd_same, ?_, x2.2.2⟩
        rw [upd_ne h4, hcl]
        exact h3
      · obtain ⟨_, ps, k1, k2, k3⟩ := x1.tab b q' h'
        have ne : ∀ c r, H1 c = some r → ¬ isLD r → c ≠ a := fun c r e n z => by
          rw [z, h2] at e
          cases e
          exact n trivial
        refine ⟨ps, ?_, k2, fun pos cv hc => ?_⟩
        · rw [upd_ne (ne _ _ k1 id)]
          exact k1
        · obtain ⟨c, e1, e2, e3⟩ := k3 pos cv hc
          refine ⟨c, e1, ?_, e3⟩
          rw [upd_ne (ne _ _ e2 code_ld)]
          exact e2
    · exact h.elim
end
end DL
set_option Elab.async false
set_option linter.all false
set_option maxRecDepth 100000
set_option maxHeartbeats 2000000
/-! # The data layer, part 14: the pen is made; the law's own head -/
namespace DL
open PySem PySem.Spec PyProof.Rows L2

/-! ### what the mirrors give -/
section
variable {ρ : Env} {p p1 p2 : Option Pen} {f g : M Z} {x y z : Z} {op : Z → Z → Option Z} {zs : List Z} {G : M (List Z)} {bo : List Z → Option Z}
theorem ev_op (h1 : f ρ p = .ok x p1) (h2 : g ρ p1 = .ok y p2) (h3 : op x y = some z) : eOp op f g ρ p = .ok z p2 := by
  unfold eOp
  rw [h1]
  show (g ρ p1).bind _ = _
  rw [h2]
  show (match op x y with | some z => R.ok z p2 | none => .bad) = _
  rw [h3]
theorem ev_cons (h1 : f ρ p = .ok x p1) (h2 : G ρ p1 = .ok zs p2) : aCons f G ρ p = .ok (x :: zs) p2 := by
  unfold aCons
  rw [h1]
  show (G ρ p1).bind _ = _
  rw [h2]
  rfl
theorem ev_cb (h1 : G ρ p = .ok zs p1) (h3 : bo zs = some z) : eCB bo G ρ p = .ok z p1 := by
  unfold eCB
  rw [h1]
  show (match bo zs with | some z => R.ok z p1 | none => .bad) = _
  rw [h3]
end
theorem mul_low {i j : Int} (h : lowI j = true) : opMul (zS (.int i)) (zS (.int j)) = some (zS (.int (i * j))) := by
  unfold opMul
  dsimp only
  rw [if_pos (by rw [Bool.or_eq_true, Bool.or_eq_true]; exact .inl (.inr h))]
theorem mod_ne {i j : Int} (h : j ≠ 0) : opMod (zS (.int i)) (zS (.int j)) = some (zS (.int (i.fmod j))) := by
  unfold opMod
  dsimp only
  rw [if_pos (decide_eq_true h)]

def penFold : Int → List Int → Int
  | f, [] => f
  | f, c :: cs => penFold ((f * 103 + c).fmod 999999667) cs
def penNew (ns : List Int) : Pen := ⟨ns, 0, 0, 0, penFold 0 ns⟩
theorem penFold_snoc : ∀ (ns : List Int) (f c : Int), penFold f (ns ++ [c]) = (penFold f ns * 103 + c).fmod 999999667
  | [], _, _ => rfl
  | n :: ns, f, c => penFold_snoc ns _ c
def mPenE : M Z := eOp opMod (eCB biInt (aCons (eOp opAdd (eOp opMul (eVar 1) (eC (.int 103))) (eVar 2)) aNil)) (eC (.int 999999667))
theorem mPenE_is (f c : Int) : mPenE [none, some ⟨.int f, 0⟩, some ⟨.int c, 0⟩] none = .ok (zS (.int ((f * 103 + c).fmod 999999667))) none :=
  ev_op (x := zS (.int (f * 103 + c))) (y := zS (.int 999999667)) (ev_cb (zs := [zS (.int (f * 103 + c))]) (ev_cons (ev_op (x := zS (.int (f * 103))) (y := zS (.int c)) (ev_op (x := zS (.int f)) (y := zS (.int 103)) rfl rfl (mul_low (by decide))) rfl rfl) rfl) rfl) rfl (mod_ne (by decide))
theorem merge_all : ∀ (more acc : List (Key × V)), (∀ kv ∈ more, valV acc kv.1 = none) → (more.map (·.1)).Nodup → mergeK acc more = acc ++ more
  | [], acc, _, _ => (List.append_nil acc).symm
  | kv :: more, acc, h, nd => by
    have n := List.nodup_cons.mp nd
    show mergeK (putK acc kv.1 kv.2) more = _
    rw [putK_new _ (h kv List.mem_cons_self), merge_all more _ (fun kw hw => ?_) n.2, List.append_assoc]
    · rfl
    · rw [valV_snoc _ _ _ _ (h kv List.mem_cons_self), if_neg fun e => n.1 (by show kv.1 ∈ _; rw [← e]; exact List.mem_map_of_mem (f := fun x : Key × V => x.1) hw)]
      exact h kw (List.mem_cons_of_mem _ hw)
theorem merge_new (more : List (Key × V)) (nd : (more.map (·.1)).Nodup) : mergeK [] more = more := merge_all more [] (fun _ _ => valV_nil) nd
/-- _law_pen -/
def spPen (K : PySem.W.Frag) : Sp := fun vs H Q _ => ∃ (s : Addr) (ns : List Int), vs = [.ref s] ∧ SqL K H s (ns.map V.int) ∧
  ∀ (a c : Addr) (H' : Hp), H a = none → H c = none → c ≠ a → Sub H H' → H' a = some (.dK (penKvs c (penNew ns))) → H' c = some (.lst (ns.map V.int)) → Q (.ref a) H'
def rList (K : PySem.W.Frag) : List V → Hp → VK → Prop := fun xs H Q => ∃ p ys, xs = [.ref p] ∧ (SqL K H p ys ∨ SqT K H p ys) ∧ ∀ l, H l = none → Q (.ref l) (upd H l (.lst ys))
def tPen (T : Tx) (K : PySem.W.Frag) : TS := tSeq (tAsg (tC (.int 0)) (gName 1)) (tSeq (tFor (iList K (tVar 0)) (gName 2) (tAsg (upE T WxF mPenE) (gName 1)))
  (tRet (tDisp [(tC (.str "cells"), tCB (rList K) (tCons (tVar 0) tNil)), (tC (.str "at"), tC (.int 0)), (tC (.str "digits"), tC (.int 0)), (tC (.str "count"), tC (.int 0)), (tC (.str "fold"), tVar 1)])))
/-- no pen, no tables, no lambdas -/
def Tx.bare (T : Tx) : Tx := { T with W := none, tb := [], C := fun _ => none, Z := fun _ => none }
theorem lamNo {P : Program} {w : World} {K : PySem.W.Frag} {mg : Str → Option Value} {base : Heap} {T : Tx} : LamOk P w K mg base T fun _ _ => .bad := fun _ _ _ _ _ _ _ _ _ _ _ _ _ _ _ _ _ _ _ h => h.elim
theorem SRep.plain {T0 : Tx} {σ : L2.St} {H : Hp} {ρ : Env} (l : ρ.length = σ.length) (h : ∀ (i : Nat) (c : Cell), ρ[i]? = some (some c) → ∃ v, σ[i]? = some (some v) ∧ c.o = 0 ∧ ∀ F, Rp T0.bare F c.d v) : SRep T0.bare (fun _ => none) (fun _ => False) (fun _ => []) ρ none σ H := by
  refine ⟨l, ⟨trivial, fun a q h => (nomatch h)⟩, fun a h => h.elim, fun a o e => (nomatch e), fun a _ => rfl, ⟨fun a o e => (nomatch e), fun a o e => (nomatch e), fun a o e => (nomatch e)⟩, fun i a h => absurd h (by simp), fun _ => List.nodup_nil, fun i j a h => absurd h (by simp), fun i c e => ?_, fun _ _ => rfl⟩
  obtain ⟨v, e1, e2, e3⟩ := h i c e
  refine ⟨v, e1, ?_⟩
  rw [e2]
  exact ⟨rfl, e3 _⟩
theorem pen_read {T0 : Tx} {K : PySem.W.Frag} {vs : List V} {H : Hp} {Q : VK} {E : XK} (h : spPen K vs H Q E) : tPen T0.bare K { nx := fun _ H' => Q .non H', rt := Q } (L2.start ["script", "fold", "cell"] vs) H := by
  obtain ⟨s, ns, rfl, hS, q⟩ := h
  have st : L2.start ["script", "fold", "cell"] [V.ref s] = [some (.ref s), none, none] := rfl
  rw [st]
  refine ⟨.ref s, rfl, s, rfl, ⟨_, hS⟩, for_list (K := K) (a := s) (xs := ns.map V.int) (fun i σ H' => ∃ u, σ = [some (.ref s), some (.int (penFold 0 (ns.take i))), u] ∧ Sub H H') ⟨none, rfl, .refl H⟩ (fun i σ H' _ ⟨_, _, e⟩ => e.sql hS) ?_ ?_⟩
  · rintro i x σ H' hi ⟨u, rfl, e⟩
    rw [List.getElem?_map] at hi
    cases en : ns[i]? with
    | none =>
      rw [en] at hi
      cases hi
    | some c =>
      rw [en] at hi
      cases hi
      refine ⟨fun _ => none, fun _ => False, fun _ => [], [none, some ⟨.int (penFold 0 (ns.take i)), 0⟩, some ⟨.int c, 0⟩], none, SRep.plain rfl fun j d hj => ?_, ?_⟩
      · match j, hj with
        | 1, hj =>
          cases hj
          exact ⟨_, rfl, rfl, fun _ => rfl⟩
        | 2, hj =>
          cases hj
          exact ⟨_, rfl, rfl, fun _ => rfl⟩
      · rw [mPenE_is]
        intro v H1 g x1 zr
        rw [int_of zr rfl]
        refine ⟨some (.int c), ?_, e.trans fun a o ha => g a o ha fun z => z.elim (fun z => nomatch z) fun ⟨_, z⟩ => nomatch z⟩
        have : ns.take (i + 1) = ns.take i ++ [c] := by rw [List.take_add_one, en]; rfl
        rw [this, penFold_snoc]
        rfl
  · rintro σ H' ⟨u, rfl, e⟩
    rw [List.length_map, List.take_length]
    intro a na
    have sa : Sub H' (upd H' a (.dK [])) := .new na
    refine ⟨.ref s, rfl, s, ns.map V.int, rfl, .inl ((e.trans sa).sql hS), fun c nc => ?_⟩
    have nca : c ≠ a := fun z => by rw [z, upd_same] at nc; cases nc
    refine ⟨_, rfl, ?_, [(.inr "cells", .ref c), (.inr "at", .int 0), (.inr "digits", .int 0), (.inr "count", .int 0), (.inr "fold", .int (penFold 0 ns))], rfl, (by show 5 ≤ 15; decide), ?_⟩
    · rw [upd_ne nca.symm, upd_same]
    · have em : mergeK [] [((.inr "cells" : Key), V.ref c), (.inr "at", .int 0), (.inr "digits", .int 0), (.inr "count", .int 0), (.inr "fold", .int (penFold 0 ns))] = penKvs c (penNew ns) := by
        exact merge_new _ (by show [(.inr "cells" : Key), .inr "at", .inr "digits", .inr "count", .inr "fold"].Nodup; decide)
      rw [em]
      have nc' : H' c = none := by
        rw [upd_ne nca] at nc
        exact nc
      have bk : ∀ b, H' b = none → H b = none := fun b n => by
        cases eb : H b with
        | none => rfl
        | some o =>
          rw [e b o eb] at n
          cases n
      refine q a c _ (bk a na) (bk c nc') nca (fun b o eb => ?_) upd_same ?_
      · have e2 := e b o eb
        have n1 : b ≠ a := fun z => by
          rw [z, na] at e2
          cases e2
        have n2 : b ≠ c := fun z => by
          rw [z, nc'] at e2
          cases e2
        rw [upd_ne n1, upd_ne n2, upd_ne n1]
        exact e2
      · rw [upd_ne nca, upd_same]

/-! ### the law -/
section
variable {P : Program} {w : World} {K : PySem.W.Frag} {mg : Str → Option Value} {base : Heap} {T0 : Tx}
theorem pen_fn {st : Stmt} {f : Addr} {fd : FuncData} {k : Nat} (hK : T0.K = K) (F : Fun K "_law_pen" "_law_pen" st f fd) (S : FnScope ["script", "fold", "cell"] ["script"] (defScope st)) (bd : Binds K fd ["script"] [])
    (body : ∀ (cdv : Value) (A : Around) (out : List PySem.Env) (s : Shared) (H : Hp) (E : XK) (T : Tx) (th : TH), BH T0 T (cxOf (L2.CX P w) P w K mg base ["script", "fold", "cell"] "_law_pen" (defScope st) f cdv A out s H E) k (fun cls d _ H => E cls d H) th →
      PSs (cxOf (L2.CX P w) P w K mg base ["script", "fold", "cell"] "_law_pen" (defScope st) f cdv A out s H E) (defBody st) (tPen T K)) : FnG P w K mg base (k + 1) f (spPen K) := by
  refine fnG_mk F S bd (fun vs H Q E h => ?_) fun cdv A out s H vs Q E hg hr h => ?_
  · obtain ⟨a, ns, rfl, _⟩ := h
    rfl
  · exact ⟨_, body cdv A out s H E T0.bare (fun _ _ => .bad) ⟨⟨rfl, rfl, rfl, rfl, rfl⟩, hK, hg, hr, rfl, takes_of rfl rfl rfl rfl, passes_of rfl, lamNo⟩, pen_read h⟩
def lawOk : O → Prop
  | .ret z _ => z.d = .bl true
  | _ => False
def spLaw (K : PySem.W.Frag) (tb : List (Addr × Str)) (n : Nat) : Sp := fun vs H Q _ => ∃ (a : Addr) (ns : List Int), vs = [.ref a] ∧ SqL K H a (ns.map V.int) ∧ ns.length ≤ n ∧ (∀ a q, (a, q) ∈ tb → H a = some (.tbl #[])) ∧ ∀ H', Q (.bl true) H'
def startL (n : Nat) : Env := none :: some ⟨.pen, 0⟩ :: List.replicate n none
/-- the context of the law -/
abbrev lawCx (P : Program) (w : World) (K : PySem.W.Frag) (mg : Str → Option Value) (base : Heap) (N : List Str) (st : Stmt) (f : Addr) (cdv : Value) (A : Around) (out : List PySem.Env) (s : Shared) (H : Hp) (E : XK) : Cx := cxOf (L2.CX P w) P w K mg base N "law" (defScope st) f cdv A out s H E
theorem law_fn {st s1 : Stmt} {rest : List Stmt} {N : List Str} {f fp : Addr} {fd : FuncData} {k n nl : Nat} {m : SM} {tb : List (Addr × Str)} {cl : Cx → Nat → Addr → Addr → HO} (hK : T0.K = K) (F : Fun K "law" "law" st f fd) (S : FnScope N ["script"] (defScope st)) (bd : Binds K fd ["script"] []) (hb : defBody st = s1 :: rest) (hN : N.length = n + 2)
    (d1 : ∀ (cdv : Value) (A : Around) (out : List PySem.Env) (s : Shared) (H : Hp) (E : XK) (T : Tx) (th : TH), BH T0 T (lawCx P w K mg base N st f cdv A out s H E) k (fun cls d _ H => E cls d H) th →
      PS (lawCx P w K mg base N st f cdv A out s H E) s1 (tAsg (fun σ H Q => tCons (tVar 0) tNil σ H fun vs H1 => spPen K vs H1 Q (WE (fun cls d _ H => E cls d H) σ)) (gName 1)))
    (d2 : ∀ (cdv : Value) (hcv : fd.code = cdv) (A : Around) (out : List PySem.Env) (s : Shared) (H : Hp) (E : XK) (T : Tx) (th : TH), BH T0 T (lawCx P w K mg base N st f cdv A out s H E) k (fun cls d _ H => E cls d H) th →
      T.tb = tb → T.cl = cl (lawCx P w K mg base N st f cdv A out s H E) → (∀ n, T.cq n = "law.<locals>.<lambda>") → DSs (lawCx P w K mg base N st f cdv A out s H E) T (fun cls d _ H => E cls d H) rest m)
    (ok : ∀ ns : List Int, ns.length ≤ nl → lawOk (m (startL n) (some (penNew ns)))) : FnG P w K mg base (k + 1) f (spLaw K tb nl) := by
  refine fnG_mkC F S bd (fun vs H Q E h => ?_) fun cdv hcv A out s H vs Q E hg hr h => ?_
  · obtain ⟨a, ns, rfl, _⟩ := h
    rfl
  · obtain ⟨a, ns, rfl, hS, hl, hT, q⟩ := h
    have bh : ∀ T th, TK T0 T → LamOk P w K mg base T th → BH T0 T (lawCx P w K mg base N st f cdv A out s H E) k (fun cls d _ H => E cls d H) th := fun T th tk lam => ⟨tk, tk.k.trans hK, hg, hr, rfl, takes_of rfl rfl rfl rfl, passes_of rfl, lam⟩
    rw [hb]
    obtain ⟨T', eT⟩ : ∃ T', T' = fun b c => ({ T0 with W := some b, Wc := c, tb := tb, cl := cl (lawCx P w K mg base N st f cdv A out s H E), cq := fun _ => "law.<locals>.<lambda>", C := fun _ => none, Z := fun _ => none } : Tx) := ⟨_, rfl⟩
    refine ⟨_, pss_cons (d1 cdv A out s H E T0 _ (bh T0 _ ⟨rfl, rfl, rfl, rfl, rfl⟩ lamNo)) (u := fun D σ H' => ∃ b c, upS (T' b c) (fun cls d _ H => E cls d H) m D σ H') ⟨fun pins s' σ H' D I ⟨b, c, h⟩ => (d2 cdv hcv A out s H E (T' b c) _ (bh _ _ (by rw [eT]; exact ⟨rfl, rfl, rfl, rfl, rfl⟩) lamNo) (by rw [eT]) (by rw [eT]) (by rw [eT]; exact fun _ => rfl)).run pins s' σ H' D I h⟩, ?_⟩
    have es : L2.start N [V.ref a] = some (.ref a) :: List.replicate (n + 1) none := by
      unfold L2.start
      rw [hN]
      rfl
    rw [es]
    refine ⟨.ref a, rfl, a, ns, rfl, hS, fun b c H' nb nc ne sub eb ec => ⟨b, c, ?_⟩⟩
    have tabs : ∀ (Mo : Addr → Prop) x q, (x, q) ∈ tb → TabM Mo H' x q := fun Mo x q hx => ⟨#[], sub _ _ (hT x q hx), True.intro, fun pos cv hc => by
      have z : codeAmong pos [] = some cv := hc
      simp [codeAmong] at z⟩
    rw [eT]
    refine ⟨fun _ => none, fun x => x = b ∨ x = c ∨ ∃ q, (x, q) ∈ tb, fun _ => [], startL n, some (penNew ns), ⟨?_, ⟨?_, fun x q hx => ⟨.inr (.inr ⟨q, hx⟩), tabs _ x q hx⟩⟩, ?_, fun x o e => (nomatch e), fun x _ => rfl, ⟨fun a o e => (nomatch e), fun a o e => (nomatch e), fun a o e => (nomatch e)⟩, fun i x h => absurd h (by simp), fun _ => List.nodup_nil, fun i j x h => absurd h (by simp), fun i cc e => ?_, fun _ _ => rfl⟩, ?_⟩
    · unfold startL
      simp
    · exact ⟨eb, ec, .inl rfl, .inr (.inl rfl), ne⟩
    · rintro x (rfl | rfl | ⟨q, hx⟩)
      · rw [eb]
        exact fun z => nomatch z
      · rw [ec]
        exact fun z => nomatch z
      · obtain ⟨ps, e1, _⟩ := tabs (fun _ => False) x q hx
        rw [e1]
        exact fun z => nomatch z
    · match i, e with
      | 1, e =>
        cases e
        exact ⟨.ref b, rfl, rfl, b, rfl, rfl⟩
      | i + 2, e =>
        have e : (List.replicate n (none : Option Cell))[i]? = some (some cc) := e
        rw [List.getElem?_replicate] at e
        split at e
        · cases e
        · cases e
    · have := ok ns hl
      generalize m (startL n) (some (penNew ns)) = r at this
      cases r with
      | ret z p =>
        intro v H2 rr
        have e : z.d = .bl true := this
        obtain ⟨as, o1, _, _⟩ := rr.own
        have r := o1.rp (G := H2) hid_sub _ fun _ _ _ h => h
        have r : Rp _ H2 z.d v := r
        rw [e] at r
        have r : v = .bl true := r
        rw [r]
        exact q H2
      | _ => exact this.elim
end

/-! ### the head -/
theorem passL_false {P : Program} {w : World} {out : List PySem.Env} {H : Hp} {s s' : Shared} {u : Value} (h : L2.CX P w out H s (fun _ _ _ => False) u s') : False := by
  obtain ⟨_, _, _, _, _, _, _, _, _, _, _, _, z⟩ := h
  exact z
theorem law_run {P : Program} {w : World} {K : PySem.W.Frag} {mg mb : Str → Option Value} {k n : Nat} {fa a : Addr} {sh : Shared} {vs : List Value} {ns : List Int}
    (inK : K.In sh.heap) (gNs : sh.heap.Ns mainGlobals mg) (bNs : sh.heap.Ns builtinsNs mb) (boot : ∀ y : Str, y ≠ "__name__" → mb y = bootBuiltins y) (nolim : sh.heap.NoLimit) (gens : sh.gens = #[])
    (obj : sh.heap.get? a = some { cls := .type "list", data := .seq vs.toArray }) (iar : IntsAre vs ns) (fit : ns.length ≤ sizeLine) (short : ns.length ≤ n) (room : Room k callerA)
    (F : ∀ base : Heap, K.In base → base.Ns mainGlobals mg → FnG P w K mg base k fa (spLaw K [] n)) :
    codeAny (model P w) callerA (.call (.ref fa) ⟨[.ref a], []⟩) (fun r s' => r = .ok (.ret (.bool true)) ∧ OldK sh.heap s'.heap ∧ s'.os = sh.os ∧ AllBare s'.gens) sh := by
  have len := iar.length
  have gen : ∀ H : Hp, (∀ b, H b = none ∨ ∃ o xs, H b = some (.frz o (.lst xs))) → SqL K H a (ns.map V.int) → HOk P w H sh.heap → (∀ b, H b ≠ none → b = a) → (H a ≠ none → K.lookup a = none) →
      codeAny (model P w) callerA (.call (.ref fa) ⟨[.ref a], []⟩) (fun r s' => r = .ok (.ret (.bool true)) ∧ OldK sh.heap s'.heap ∧ s'.os = sh.os ∧ AllBare s'.gens) sh := by
    intro H only seq hok just apart
    have off : ∀ {b : Addr} {o : Obj}, sh.heap.get? b = some o → (∀ vs m, o ≠ { cls := .type "list", data := .seq vs m }) ∨ K.lookup b ≠ none → H b = none := fun {b o} e h => by
      cases q : H b with
      | none => rfl
      | some u =>
        have ba := just b (by rw [q]; exact fun z => nomatch z)
        subst ba
        rw [obj] at e
        cases e
        rcases h with h | h
        · exact absurd rfl (h _ _)
        · exact absurd (apart (by rw [q]; exact fun z => nomatch z)) h
    have nsK : ∀ {b : Addr} {m : Str → Option Value}, sh.heap.Ns b m → (hidT sh.heap H).Ns b m := fun {b m} h => by
      obtain ⟨o, es, ep, e, d, r⟩ := h
      exact ⟨o, es, ep, hidT_get e (off e (.inl fun v m z => by rw [z] at d; cases d)), d, r⟩
    have kin : K.In (hidT sh.heap H) := fun b o e => hidT_get (inK b o e) (off (inK b o e) (.inr (by rw [e]; exact fun z => nomatch z)))
    have md : Mod K mg (hidT sh.heap H) := ⟨kin, nsK gNs, ⟨mb, nsK bNs, boot⟩, by
      obtain ⟨mc, h1, h2⟩ := nolim
      exact ⟨mc, nsK h1, h2⟩⟩
    have en : Env0 P w K mg (hidT sh.heap H) callerA [] sh H := by
      refine ⟨rfl, md, fun b o e => of_hidT e, ?_, trivial, fun b hb => ?_, hok, .of_eq gens⟩
      · rw [hidT_size]
        exact Nat.le_refl _
      · cases hb
    obtain ⟨ps, fd, bd, ln, run⟩ := (F _ kin (nsK gNs)).ex
    have sp : spLaw K [] n [.ref a] H (fun v _ => v = .bl true) fun _ _ _ => False := ⟨a, ns, rfl, seq, short, (fun _ _ h => nomatch h), fun _ => rfl⟩
    have bt := bd sh [.ref a] inK (by rw [List.append_nil]; exact ln _ _ _ _ sp)
    rw [List.append_nil] at bt
    refine codeAny_mono (run callerA [] sh H ⟨[.ref a], []⟩ [.ref a] [.ref a] _ _ rfl room en bt (.cons rfl .nil) sp) fun r s' h => ?_
    match r, h with
    | .error e, h => exact (passL_false h).elim
    | .ok (.ret u), h =>
      obtain ⟨v, H', os, bare, un, hok', ru, q⟩ := h
      have q : v = .bl true := q
      subst q
      obtain rfl : u = Value.bool true := ru
      refine ⟨rfl, .of_keep fun b o e => ?_, os, bare⟩
      rcases only b with z | ⟨ob, xs, z⟩
      · exact un.keep b o e z (fun y => nomatch y) (by simp)
      · obtain ⟨e1, _⟩ := hok b _ z
        obtain ⟨e2, _⟩ := hok' b _ (un.frzs b ob _ z)
        rw [e] at e1
        cases e1
        exact e2
  by_cases hk : K.lookup a = none
  · refine gen (fun b => if b = a then some (.frz { cls := .type "list", data := .seq vs.toArray } (.lst (ns.map V.int))) else none) (fun b => ?_) (.inl (.inr ⟨_, if_pos rfl⟩)) (fun b u z => ?_) (fun b z => ?_) fun _ => hk
    · by_cases e : b = a
      · exact .inr ⟨_, _, if_pos e⟩
      · exact .inl (if_neg e)
    · by_cases e : b = a
      · subst e
        have z := (if_pos rfl).symm.trans z
        cases z
        exact ⟨obj, by rw [List.length_map]; exact fit, vs, _, vals_ints iar, obj⟩
      · have z := (if_neg e).symm.trans z
        cases z
    · by_cases e : b = a
      · exact e
      · exact absurd (if_neg e) z
  · obtain ⟨o, eo⟩ : ∃ o, K.lookup a = some o := by
      cases e : K.lookup a with
      | none => exact absurd e hk
      | some o => exact ⟨o, rfl⟩
    have e2 := inK a o eo
    rw [obj] at e2
    cases e2
    refine gen (fun _ => none) (fun _ => .inl rfl) (.inr ⟨_, vs.toArray, _, eo, rfl, rfl, rfl, by rw [List.size_toArray, len]; exact fit, by simpa using vals_ints iar⟩) (fun b u z => by cases z) (fun b z => absurd rfl z) fun z => absurd rfl z
theorem walkG {l : PySem.W.OpenLaw} {n k : Nat} {q : Program} {loose : List Str} {XP : (Str → Option Value) → Heap → Prop} {YP : World → Heap → Prop} {d : DefRec} {K : Params → PySem.W.Frag}
    (hn : l.most = some n) (hn2 : n ≤ sizeLine) (hdf : d.params.defaults = []) (hr : Room k callerA) (hY : ∀ (w : World) (h : Heap), YP w h → (K w.params).In h)
    (F : ∀ (w : World) (mg : Str → Option Value) (fa : Addr) (h : Heap), (K w.params).In h → h.Ns mainGlobals mg → mg d.name = some (.ref fa) →
      ∀ base : Heap, (K w.params).In base → base.Ns mainGlobals mg → FnG l.prog w (K w.params) mg base k fa (spLaw (K w.params) [] n)) :
    PySem.W.WalkO q loose XP YP l.row.toRowW d [] (fun f vs => PySem.call f vs) :=
  Att.attach_call hn hdf fun w s₀ sh mg mb fa o pm cd doc a vs ns G Y _ _ _ hmg obj iar hl hg =>
    law_run (hY w _ Y) G.T.g G.T.b G.T.builtins G.T.nolimit hg obj iar (Nat.le_trans hl hn2) hl hr (F w mg fa _ (hY w _ Y) G.T.g hmg)
end DL
set_option Elab.async false
set_option linter.all false
set_option maxRecDepth 100000
set_option maxHeartbeats 2000000
/-! # The data layer, part 15: cells seen and unseen; lambdas -/
namespace DL
open PySem PySem.Spec PyProof.Rows L2

def ovr (Z H : Hp) : Hp := fun a => match Z a with | some o => some o | none => H a
abbrev zs (Z : Hp) : Addr → Prop := fun a => Z a ≠ none
def Cells (Z : Hp) (h : Heap) : Prop := ∀ a u, Z a = some u → ∃ o, u = celO a o ∧ h.get? a = some o
section
variable {Z H H1 H2 : Hp} {P : Program} {w : World} {h h' : Heap} {a : Addr} {u o : HO}
theorem ovr_in (e : Z a = some u) : ovr Z H a = some u := by unfold ovr; rw [e]
theorem ovr_out (e : Z a = none) : ovr Z H a = H a := by unfold ovr; rw [e]
theorem zs_none (e : Z a = none) : ¬ zs Z a := fun z => z e
theorem z_cases (Z : Hp) (a : Addr) : Z a = none ∨ ∃ u, Z a = some u := by
  cases e : Z a with
  | none => exact .inl rfl
  | some u => exact .inr ⟨u, rfl⟩
theorem hid_z (e : Z a = none) : hid (zs Z) H a = H a := hid_out (zs_none e)
theorem hid_z' (e : Z a ≠ none) : hid (zs Z) H a = none := hid_in e
theorem hok_swap (x : HOk P w H h) (k : ∀ a o, H1 a = some o → H a = some o ∨ ObjOk P w H1 h a o) (ow : ∀ b y, H b = some (.own y) → H1 b = some (.own y)) (tu : ∀ b ys, H b = some (.tup ys) → H1 b = some (.tup ys)) : HOk P w H1 h := fun a o e => by
  rcases k a o e with z | z
  · exact (x a o z).stay (fun b u _ q => q) (fun b q => ow b a q) tu
  · exact z
theorem celO_own {o : Obj} {y : Addr} : celO a o ≠ .own y := fun z => by cases z
theorem celO_tup {o : Obj} {ys : List V} : celO a o ≠ .tup ys := fun z => by cases z
theorem celO_tbl {o : Obj} {ps : Array Value} : celO a o ≠ .tbl ps := fun z => by cases z
theorem cel_ok {o : Obj} (e : h.get? a = some o) : ObjOk P w H h a (celO a o) := ⟨e, e, ⟨o, e⟩, fun h1 h2 q k => k _ q⟩
/-- what stands where it is not of Z -/
theorem not_z (hc : Cells Z h) (s : Sub Z H) (e : H a = some o) (n : ∀ ob, o ≠ celO a ob) : Z a = none := by
  rcases z_cases Z a with z | ⟨u, z⟩
  · exact z
  · obtain ⟨ob, rfl, _⟩ := hc a u z
    have := s a _ z
    rw [e] at this
    cases this
    exact absurd rfl (n ob)
/-- Z's cells are forgotten -/
theorem hok_out (hc : Cells Z h) (s : Sub Z H) (x : HOk P w H h) : HOk P w (hid (zs Z) H) h := hok_swap x (fun a o e => .inl (hid_some e).1)
  (fun b y e => by rw [hid_z (not_z hc s e fun ob => Ne.symm celO_own)]; exact e) (fun b ys e => by rw [hid_z (not_z hc s e fun ob => Ne.symm celO_tup)]; exact e)
/-- Z's cells are known -/
theorem hok_in (hc : Cells Z h) (n : ∀ a, Z a ≠ none → H a = none) (x : HOk P w H h) : HOk P w (ovr Z H) h := by
  have nz : ∀ {b r}, H b = some r → Z b = none := fun {b r} e => by
    rcases z_cases Z b with z | ⟨u, z⟩
    · exact z
    · rw [n b (by rw [z]; exact fun q => nomatch q)] at e
      cases e
  refine hok_swap x (fun a o e => ?_) (fun b y e => by rw [ovr_out (nz e)]; exact e) (fun b ys e => by rw [ovr_out (nz e)]; exact e)
  rcases z_cases Z a with z | ⟨u, z⟩
  · rw [ovr_out z] at e
    exact .inl e
  · rw [ovr_in z] at e
    cases e
    obtain ⟨ob, rfl, e2⟩ := hc a _ z
    exact .inr (cel_ok e2)
end
section
variable {Z H : Hp} {P : Program} {w : World} {K : PySem.W.Frag} {mg : Str → Option Value} {base : Heap} {A : Around} {out : List PySem.Env} {s s' : Shared} {Q : VK} {E : XK} {u : Value}
theorem env_in (hc : Cells Z s.heap) (n : ∀ a, Z a ≠ none → H a = none) (nf : ∀ a, Z a ≠ none → a ∉ frs out) (nb : ∀ a o, base.get? a = some o → Z a = none) (e : Env0 P w K mg base A out s H) : Env0 P w K mg base A out s (ovr Z H) :=
  ⟨e.frames, e.mod, fun b o q => ⟨(e.bs b o q).1, by rw [ovr_out (nb b o q)]; exact (e.bs b o q).2⟩, e.bsz, e.funs, fun b hb => by
    rcases z_cases Z b with z | ⟨u, z⟩
    · rw [ovr_out z]
      exact e.frf b hb
    · exact absurd hb (nf b (by rw [z]; exact fun q => nomatch q)), hok_in hc n e.hok, e.bare⟩
theorem env_out (hc : Cells Z s.heap) (sub : Sub Z H) (e : Env0 P w K mg base A out s H) : Env0 P w K mg base A out s (hid (zs Z) H) := by
  have nn : ∀ b, H b = none → hid (zs Z) H b = none := fun b n => by
    cases q : hid (zs Z) H b with
    | none => rfl
    | some o =>
      rw [(hid_some q).1] at n
      cases n
  exact ⟨e.frames, e.mod, fun b o q => ⟨(e.bs b o q).1, nn b (e.bs b o q).2⟩, e.bsz, e.funs, fun b hb => nn b (e.frf b hb), hok_out hc sub e.hok, e.bare⟩
/-- a call that knew of Z, seen by one who does not -/
theorem ce_out (hc : Cells Z s.heap) (n : ∀ a, Z a ≠ none → H a = none) (nf : ∀ a, Z a ≠ none → a ∉ frs out) (x : CE out P w (ovr Z H) s Q u s') :
    CE out P w H s (fun v H2 => ∃ H1, Q v H1 ∧ Sub Z H1 ∧ H2 = hid (zs Z) H1) u s' := by
  obtain ⟨v, H1, os, bare, un, hok, r, q⟩ := x
  have sub : Sub Z H1 := fun a uu e => by
    obtain ⟨o, rfl, _⟩ := hc a uu e
    exact un.frzs a _ _ (ovr_in e)
  have hc' : Cells Z s'.heap := fun a uu e => by
    obtain ⟨o, rfl, _⟩ := hc a uu e
    exact ⟨o, rfl, (hok a _ (sub a _ e)).1⟩
  have nz : ∀ {b r}, H b = some r → Z b = none := fun {b r} e => by
    rcases z_cases Z b with z | ⟨u, z⟩
    · exact z
    · rw [n b (by rw [z]; exact fun q => nomatch q)] at e
      cases e
  refine ⟨v, hid (zs Z) H1, os, bare, ⟨fun b o e nn hf hx => ?_, fun b o e nn hf hx => ?_, fun b o e nn hx => ?_, un.there, fun b ys e => ?_, fun b o uu e => ?_, fun b ps e => ?_⟩, hok_out hc' sub hok, r, H1, q, sub, rfl⟩
  · rcases z_cases Z b with z | ⟨uu, z⟩
    · exact un.keep b o e (by rw [ovr_out z]; exact nn) hf hx
    · obtain ⟨ob, rfl, e2⟩ := hc b uu z
      rw [e] at e2
      cases e2
      obtain ⟨ob', e3, e4⟩ := hc' b _ z
      cases e3
      exact e4
  · rcases z_cases Z b with z | ⟨uu, z⟩
    · exact un.slot b o e (by rw [ovr_out z]; exact nn) hf hx
    · exact absurd hf (nf b (by rw [z]; exact fun q => nomatch q))
  · rcases z_cases Z b with z | ⟨uu, z⟩
    · rw [hid_z z]
      exact un.free b o e (by rw [ovr_out z]; exact nn) hx
    · exact hid_z' (by rw [z]; exact fun q => nomatch q)
  · have z := nz e
    rw [hid_z z]
    exact un.tups b ys (by rw [ovr_out z]; exact e)
  · have z := nz e
    rw [hid_z z]
    exact un.frzs b o uu (by rw [ovr_out z]; exact e)
  · have z := nz e
    rw [hid_z z]
    exact un.tbls b ps (by rw [ovr_out z]; exact e)
theorem nz_of (hc : Cells Z s.heap) (sub : Sub Z H) {b : Addr} {r : HO} (e : H b = some r) (n : ∀ ob, r ≠ celO b ob) : Z b = none := not_z hc sub e n
/-- a call that did not know of Z, seen by one who does -/
theorem ce_in (hc : Cells Z s.heap) (sub : Sub Z H) (nf : ∀ a, Z a ≠ none → a ∉ frs out) (x : CE out P w (hid (zs Z) H) s Q u s') :
    CE out P w H s (fun v H1 => ∃ H2, Q v H2 ∧ (∀ a, Z a ≠ none → H2 a = none) ∧ H1 = ovr Z H2) u s' := by
  obtain ⟨v, H2, os, bare, un, hok, r, q⟩ := x
  have nn2 : ∀ a, Z a ≠ none → H2 a = none := fun a za => by
    rcases z_cases Z a with z | ⟨uu, z⟩
    · exact absurd z za
    · obtain ⟨o, rfl, e2⟩ := hc a uu z
      exact un.free a o e2 (hid_z' za) (by simp)
  have hc' : Cells Z s'.heap := fun a uu z => by
    obtain ⟨o, rfl, e2⟩ := hc a uu z
    have za : Z a ≠ none := by rw [z]; exact fun q => nomatch q
    exact ⟨o, rfl, un.keep a o e2 (hid_z' za) (nf a za) (by simp)⟩
  have hn : ∀ {b}, H b = none → Z b = none ∧ hid (zs Z) H b = none := fun {b} n => by
    rcases z_cases Z b with z | ⟨uu, z⟩
    · exact ⟨z, by rw [hid_z z]; exact n⟩
    · rw [sub b uu z] at n
      cases n
  refine ⟨v, ovr Z H2, os, bare, ⟨fun b o e n hf hx => un.keep b o e (hn n).2 hf hx, fun b o e n hf hx => un.slot b o e (hn n).2 hf hx, fun b o e n hx => ?_, un.there, fun b ys e => ?_, fun b o uu e => ?_, fun b ps e => ?_⟩, hok_in hc' nn2 hok, r, H2, q, nn2, rfl⟩
  · rw [ovr_out (hn n).1]
    exact un.free b o e (hn n).2 hx
  · have z := nz_of hc sub e fun ob => Ne.symm celO_tup
    rw [ovr_out z]
    exact un.tups b ys (by rw [hid_z z]; exact e)
  · rcases z_cases Z b with z | ⟨vv, z⟩
    · rw [ovr_out z]
      exact un.frzs b o uu (by rw [hid_z z]; exact e)
    · rw [ovr_in z, ← sub b vv z]
      exact e
  · have z := nz_of hc sub e fun ob => Ne.symm celO_tbl
    rw [ovr_out z]
    exact un.tbls b ps (by rw [hid_z z]; exact e)
theorem cx_in (hc : Cells Z s.heap) (sub : Sub Z H) (nf : ∀ a, Z a ≠ none → a ∉ frs out) {E' : XK} (k : ∀ cls d H2, (∀ a, Z a ≠ none → H2 a = none) → E cls d H2 → E' cls d (ovr Z H2)) (x : L2.CX P w out (hid (zs Z) H) s E u s') :
    L2.CX P w out H s E' u s' := by
  obtain ⟨a, B, H2, cls, d, rfl, fl, hok, un, na, os, bare, q⟩ := x
  have hcB : Cells Z B := fun a uu z => by
    obtain ⟨o, rfl, e2⟩ := hc a uu z
    have za : Z a ≠ none := by rw [z]; exact fun q => nomatch q
    exact ⟨o, rfl, un.keep a o e2 (hid_z' za) (nf a za)⟩
  have nn2 : ∀ a, Z a ≠ none → H2 a = none := fun a za => by
    rcases z_cases Z a with z | ⟨uu, z⟩
    · exact absurd z za
    · obtain ⟨o, rfl, e2⟩ := hc a uu z
      exact un.free a o e2 (hid_z' za)
  have hn : ∀ {b}, H b = none → Z b = none ∧ hid (zs Z) H b = none := fun {b} n => by
    rcases z_cases Z b with z | ⟨uu, z⟩
    · exact ⟨z, by rw [hid_z z]; exact n⟩
    · rw [sub b uu z] at n
      cases n
  have za : Z a = none := by
    rcases z_cases Z a with z | ⟨uu, z⟩
    · exact z
    · obtain ⟨o, _, e2⟩ := hcB a uu z
      rw [fl.2.1] at e2
      cases e2
  refine ⟨a, B, ovr Z H2, cls, d, rfl, fl, hok_in hcB nn2 hok, ⟨fun b o e n hf => un.keep b o e (hn n).2 hf, un.slot, fun b o e n => ?_, un.there, fun b ys e => ?_, fun b o uu e => ?_, fun b ps e => ?_⟩, by rw [ovr_out za]; exact na, os, bare, k cls d H2 nn2 q⟩
  · rw [ovr_out (hn n).1]
    exact un.free b o e (hn n).2
  · have z := nz_of hc sub e fun ob => Ne.symm celO_tup
    rw [ovr_out z]
    exact un.tups b ys (by rw [hid_z z]; exact e)
  · rcases z_cases Z b with z | ⟨vv, z⟩
    · rw [ovr_out z]
      exact un.frzs b o uu (by rw [hid_z z]; exact e)
    · rw [ovr_in z, ← sub b vv z]
      exact e
  · have z := nz_of hc sub e fun ob => Ne.symm celO_tbl
    rw [ovr_out z]
    exact un.tbls b ps (by rw [hid_z z]; exact e)
end

/-! ### lambdas are made -/
/-- the function object of a lambda -/
def lamO (X : Cx) (params : Arguments) (body : Expr) (scope : Scope) (a c : Addr) : HO :=
  .ext fun h => ∃ pm ctv, h.get? a = some (PySem.W.kla_obj "<lambda>" (X.env.qual ++ "<lambda>") params body scope (cloFrom X.env.cells scope.names []) pm c ctv)
theorem codeO_tbl {c : Addr} {q : Str} {ps : Array Value} : LamX.CodeO c q ≠ .tbl ps := LamX.codeO_ne ps
theorem lam_ok {P : Program} {w : World} {H : Hp} {h : Heap} {X : Cx} {params : Arguments} {body : Expr} {scope : Scope} {a c : Addr} {pm ctv : Value}
    (e : h.get? a = some (PySem.W.kla_obj "<lambda>" (X.env.qual ++ "<lambda>") params body scope (cloFrom X.env.cells scope.names []) pm c ctv)) : ObjOk P w H h a (lamO X params body scope a c) :=
  ⟨⟨pm, ctv, e⟩, ⟨_, e⟩, fun h1 h2 ⟨pm, ctv, e1⟩ k => ⟨pm, ctv, k _ e1⟩⟩
section
variable {X : Cx} {T : Tx} {Wx : WX} {pos : Pos} {params : Arguments} {body : Expr} {scope : Scope} {n : Nat} {c P : Addr}
theorem de_lam (TB : LamX.TabB X.base X.mg c P) (hcode : X.env.code = .ref c) (hm : (P, X.env.qual ++ "<lambda>") ∈ T.tb) (hu : ∀ p ∈ T.tb, p.1 = P → p.2 = X.env.qual ++ "<lambda>") (hcl : T.cl n = lamO X params body scope) (hcq : T.cq n = X.env.qual ++ "<lambda>")
    (hfree : ∀ y ∈ scope.names, y.2 = .free → X.env.scope.names.lookup y.1 = some .cell ∨ X.env.scope.names.lookup y.1 = some .free) (hdef : defaultsOf params X.env = ([], []) := by rfl) : DE X T Wx (.Lambda params body scope pos) (eC (.clo n)) := by
  refine ⟨fun pins s σ H Q I h => ?_⟩
  obtain ⟨H0, Mo, fp, ρ, p, sr, h⟩ := h
  have h : ∀ v H', Gr T H H' → PenRep T Mo p H' → ZRep T Mo fp H (zS (.clo n)) v H' → Q v H' := h
  obtain ⟨hMo, ps, hP, ht, ha⟩ := sr.pen.tab P _ hm
  have spP : T.sp P := .inr ⟨_, hm⟩
  have fr : ∀ y ∈ scope.names, y.2 = .free → ∃ cc, X.env.cells.lookup y.1 = some cc := fun y hy e => I.ok.has _ (by
    rcases hfree y hy e with z | z
    · exact .inl z
    · exact .inr z)
  have bP : s.heap.BuiltinsAt X.mg P := TB.bm.keeps I.bk
  have hP' : s.heap.get? P = some { cls := .none, data := .fields ps } := I.hok P _ hP
  refine PySem.W.kla_eval hdef ?_
  have nC : ∀ {f : Addr}, s.heap.objs.size ≤ f → H f = none := fun sz => I.hok.fresh sz
  have clO : PySem.closureFor scope X.env = pure (cloFrom X.env.cells scope.names []) := closure_ok fr
  -- the function object is laid last
  have fin : ∀ (H1 : Hp) (h1 h2 : Heap) (tk tk2 : Tok) (c' : Addr) (pm ctv : Value), Inv X pins σ H1 { s with heap := h1, toks := tk } → Gr T H H1 → PenRep T Mo p H1 → H1 c' = some (LamX.CodeO c' (X.env.qual ++ "<lambda>")) → ¬ Mo c' →
      s.heap.objs.size ≤ h1.objs.size → h2 = h1.push (PySem.W.kla_obj "<lambda>" (X.env.qual ++ "<lambda>") params body scope (cloFrom X.env.cells scope.names []) pm c' ctv) → EP X pins σ Q (.ref h1.objs.size) { s with heap := h2, toks := tk2 } := fun H1 h1 h2 tk tk2 c' pm ctv J g1 x1 hc nMo sz e2 => by
    subst e2
    have nf : H1 h1.objs.size = none := J.hok.fresh (Nat.le_refl _)
    have J2 := J.laid (a := h1.objs.size) (o := lamO X params body scope h1.objs.size c') (h' := h1.push (PySem.W.kla_obj "<lambda>" (X.env.qual ++ "<lambda>") params body scope (cloFrom X.env.cells scope.names []) pm c' ctv)) (t' := tk2) (fun b o e => Heap.get?_push_of_some _ e) (Nat.le_refl _) (lam_ok (Heap.get?_push_size _ rfl))
    refine ⟨.ref h1.objs.size, _, J2, rfl, h _ _ (g1.trans (.of (.new nf))) (x1.sub (.new nf)) ⟨.of ⟨_, c', rfl, ?_, ?_⟩, fun n => absurd rfl n⟩⟩
    · have nh : ¬ Hd Mo fp (zS (.clo n)).b h1.objs.size := fun z => sr.hdThere z (nC sz)
      rw [hid_out nh, upd_same, hcl]
    · have nh : ¬ Hd Mo fp (zS (.clo n)).b c' := fun z => by
        rcases z with z | ⟨i, _, z⟩
        · exact nMo z
        · obtain ⟨o, e1, e2⟩ := (sr.grows g1 x1).ld i c' z
          rw [hc] at e1
          cases e1
          exact code_ld e2
      rw [hid_out nh, upd_ne (ne_of_none hc nf), hcq]
      exact hc
  cases hk : codeAmong pos ps.toList with
  | some cv =>
    obtain ⟨c', rfl, hco, nMo⟩ := ha pos cv hk
    refine PySem.W.kla_makeFunctionHit (mg := X.mg) (c := c) (P := P) (ps := ps) clO I.ok.glob (I.mod.glob.keeps I.bk) hcode (TB.code.keeps I.bk) hP' ht hk bP fun ctv h' tk hx hsz => ?_
    exact fin H h' _ s.toks tk c' _ ctv (I.kept (t' := s.toks) hx) (.refl H) sr.pen hco nMo hsz rfl
  | none =>
    refine PySem.W.kla_makeFunction (mg := X.mg) (c := c) (P := P) (ps := ps) clO I.ok.glob (I.mod.glob.keeps I.bk) hcode (TB.code.keeps I.bk) hP' ht hk TB.gP bP fun c' ctv h' tk hx hge hlt hrec htb => ?_
    obtain ⟨c2, oc, vs, t, e2, hoc, hd, hv⟩ := hrec
    cases e2
    have nc : H c' = none := nC hge
    have ncP : P ≠ c' := ne_of_none hP nc
    have I1 := LamX.inv_table (t' := tk) (more := #[rawInt pos.line, rawInt pos.col, .ref c']) I hP hx htb hge ⟨oc, vs, t, hoc, hd, hv⟩
    have g1 : Gr T H (upd (upd H P (.tbl (ps ++ #[rawInt pos.line, rawInt pos.col, .ref c']))) c' (LamX.CodeO c' (X.env.qual ++ "<lambda>"))) := fun b o e nsp => by
      rw [upd_ne (ne_of_none e nc), upd_ne fun z => nsp (by rw [z]; exact spP)]
      exact e
    have stay : ∀ {b : Addr} {o : HO}, H b = some o → b ≠ P → upd (upd H P (.tbl (ps ++ #[rawInt pos.line, rawInt pos.col, .ref c']))) c' (LamX.CodeO c' (X.env.qual ++ "<lambda>")) b = some o := fun {b o} e nP => by
      rw [upd_ne (ne_of_none e nc), upd_ne nP]
      exact e
    have nt : ∀ {b : Addr} {o : HO}, H b = some o → (∀ qs, o ≠ .tbl qs) → b ≠ P := fun {b o} e q z => by
      rw [z, hP] at e
      cases e
      exact q _ rfl
    refine fin _ h' _ tk tk c' _ ctv I1 g1 ⟨?_, fun b q hb => ⟨(sr.pen.tab b q hb).1, ?_⟩⟩ upd_same (fun z => sr.mo c' z nc) (Nat.le_trans hge (Nat.le_of_lt hlt)) rfl
    · have x := sr.pen.pen
      unfold Pen0 at x ⊢
      cases hW : T.W with
      | none =>
        rw [hW] at x
        cases p with
        | none => trivial
        | some q => exact x.elim
      | some a =>
        rw [hW] at x
        cases p with
        | none => exact x.elim
        | some q =>
          obtain ⟨h1, h2, h3⟩ := x
          exact ⟨stay h1 (nt h1 fun _ z => nomatch z), stay h2 (nt h2 fun _ z => nomatch z), h3⟩
    · by_cases bP' : b = P
      · have eq : q = X.env.qual ++ "<lambda>" := hu (b, q) hb bP'
        rw [bP', eq]
        have eL : (ps ++ #[rawInt pos.line, rawInt pos.col, .ref c']).toList = ps.toList ++ [rawInt pos.line, rawInt pos.col, .ref c'] := by simp
        refine ⟨_, by rw [upd_ne ncP, upd_same], by rw [eL]; exact PySem.TriplesOk_snoc _ _ _ _ ht, fun p' cv hcv => ?_⟩
        rw [eL] at hcv
        rcases LamX.among_app _ ht hcv with z | z
        · obtain ⟨c0, e1, e2, e3⟩ := ha p' cv z
          exact ⟨c0, e1, stay e2 (nt e2 fun _ => codeO_tbl), e3⟩
        · exact ⟨c', z, upd_same, fun z => sr.mo c' z nc⟩
      · obtain ⟨_, qs, k1, k2, k3⟩ := sr.pen.tab b q hb
        refine ⟨qs, stay k1 bP', k2, fun p' cv hcv => ?_⟩
        obtain ⟨c0, e1, e2, e3⟩ := k3 p' cv hcv
        exact ⟨c0, e1, stay e2 (nt e2 fun _ => codeO_tbl), e3⟩
end
end DL
set_option Elab.async false
set_option linter.all false
set_option maxRecDepth 100000
set_option maxHeartbeats 2000000
/-! # The data layer, part 16: closures are called -/
namespace DL
open PySem PySem.Spec PyProof.Rows L2

/-- the same but for what lambdas lean on -/
structure TxEq (T T' : Tx) : Prop where
  k : T'.K = T.K
  f : T'.fa = T.fa
  c : T'.ca = T.ca
  n : T'.cf = T.cf
  l : T'.cl = T.cl
  q : T'.cq = T.cq
  w : T'.W = T.W
  wc : T'.Wc = T.Wc
  tb : T'.tb = T.tb
theorem TxEq.symm {T T' : Tx} (e : TxEq T T') : TxEq T' T := ⟨e.k.symm, e.f.symm, e.c.symm, e.n.symm, e.l.symm, e.q.symm, e.w.symm, e.wc.symm, e.tb.symm⟩
section
variable {T T' : Tx} {F : Hp}
mutual
theorem Rp.tx (e : TxEq T T') : ∀ (d : D) {v : V}, Rp T F d v → Rp T' F d v
  | .non, _, h => h
  | .bl _, _, h => h
  | .int _, _, h => h
  | .str _, _, h => h
  | .tup ds, v, h => by
    obtain ⟨a, vs, h1, h2, h3⟩ := h
    exact ⟨a, vs, h1, by rw [e.k]; exact h2, Rps.tx e ds h3⟩
  | .lst ds, v, h => by
    obtain ⟨a, vs, h1, h2, h3⟩ := h
    exact ⟨a, vs, h1, h2, Rps.tx e ds h3⟩
  | .dic ks es, v, h => by
    obtain ⟨a, kvs, h1, h2, h3, h4⟩ := h
    exact ⟨a, kvs, h1, h2, Rps.tx e ks h3, Rps.tx e es h4⟩
  | .obj c fs, v, h => by
    obtain ⟨a, dx, vs, h1, h2, h3, h4⟩ := h
    exact ⟨a, dx, vs, h1, by rw [e.c, e.n]; exact h2, by rw [e.n]; exact h3, Rps.tx e fs h4⟩
  | .fn n, v, h => by
    have h : v = .ref (T.fa n) := h
    show v = .ref (T'.fa n)
    rw [e.f]
    exact h
  | .ty _, _, h => h
  | .clo n, v, h => by
    obtain ⟨a, c, h1, h2, h3⟩ := h
    exact ⟨a, c, h1, by rw [e.l]; exact h2, by rw [e.q]; exact h3⟩
  | .pen, v, h => by
    obtain ⟨a, h1, h2⟩ := h
    exact ⟨a, h1, by rw [e.w]; exact h2⟩
theorem Rps.tx (e : TxEq T T') : ∀ (ds : List D) {vs : List V}, Rps T F ds vs → Rps T' F ds vs
  | [], _, h => h
  | d :: ds, vs, h => by
    obtain ⟨v, r, h1, h2, h3⟩ := h
    exact ⟨v, r, h1, Rp.tx e d h2, Rps.tx e ds h3⟩
end
theorem OwnR.tx {H : Hp} (e : TxEq T T') : ∀ (n : Nat) {d : D} {v : V} {as : List Addr}, OwnR T F H n d v as → OwnR T' F H n d v as
  | 0, d, v, as, h => ⟨h.1, Rp.tx e d h.2⟩
  | n + 1, d, v, as, h => by
    cases d with
    | lst ds =>
      obtain ⟨a, vs, bs, h1, h2, h3, h4⟩ := h
      exact ⟨a, vs, bs, h1, h2, h3, h4.imp fun d v cs _ q => OwnR.tx e n q⟩
    | dic ks es =>
      obtain ⟨a, kvs, bs, h1, h2, h3, h4, h5⟩ := h
      exact ⟨a, kvs, bs, h1, h2, h3, Rps.tx e _ h4, h5.imp fun d v cs _ q => OwnR.tx e n q⟩
    | non => exact ⟨h.1, Rp.tx e _ h.2⟩
    | bl b => exact ⟨h.1, Rp.tx e _ h.2⟩
    | int i => exact ⟨h.1, Rp.tx e _ h.2⟩
    | str x => exact ⟨h.1, Rp.tx e _ h.2⟩
    | tup xs => exact ⟨h.1, Rp.tx e _ h.2⟩
    | obj c fs => exact ⟨h.1, Rp.tx e _ h.2⟩
    | fn n => exact ⟨h.1, Rp.tx e _ h.2⟩
    | ty n => exact ⟨h.1, Rp.tx e _ h.2⟩
    | clo n => exact ⟨h.1, Rp.tx e _ h.2⟩
    | pen => exact ⟨h.1, Rp.tx e _ h.2⟩
theorem PenRep.tx {Mo : Addr → Prop} {p : Option Pen} {H : Hp} (e : TxEq T T') (x : PenRep T Mo p H) : PenRep T' Mo p H := by
  refine ⟨?_, ?_⟩
  · have := x.pen
    unfold Pen0 at this ⊢
    rw [e.w, e.wc]
    exact this
  · have := x.tab
    unfold TabR at this ⊢
    rw [e.tb]
    exact this
theorem sp_tx (e : TxEq T T') : T'.sp = T.sp := by
  funext a
  unfold Tx.sp
  rw [e.w, e.tb]
end

/-! ### the heap without the cells, the heap with them -/
section
variable {T T' : Tx} {Z H H1 H2 : Hp} {Mo Mo' : Addr → Prop} {p p' : Option Pen}
theorem sub_ovr (n : ∀ a, Z a ≠ none → H a = none) : Sub H (ovr Z H) := fun a o e => by
  rcases z_cases Z a with z | ⟨u, z⟩
  · rw [ovr_out z]
    exact e
  · rw [n a (by rw [z]; exact fun q => nomatch q)] at e
    cases e
theorem ovr_hid (s : Sub Z H) : ovr Z (hid (zs Z) H) = H := funext fun a => by
  rcases z_cases Z a with z | ⟨u, z⟩
  · rw [ovr_out z, hid_z z]
  · rw [ovr_in z, s a u z]
/-- Pen, tables and trees do not lean on cells -/
theorem PenRep.out (hf : ∀ a u, Z a = some u → ∃ o, u = celO a o) (s : Sub Z H) (x : PenRep T Mo p H) : PenRep T (fun a => Mo a ∧ Z a = none) p (hid (zs Z) H) := by
  have st : ∀ {a o}, H a = some o → (∀ ob, o ≠ celO a ob) → hid (zs Z) H a = some o ∧ Z a = none := fun {a o} e n => by
    rcases z_cases Z a with z | ⟨u, z⟩
    · exact ⟨by rw [hid_z z]; exact e, z⟩
    · obtain ⟨ob, rfl⟩ := hf a u z
      rw [s a _ z] at e
      cases e
      exact absurd rfl (n ob)
  refine ⟨?_, fun a q h => ?_⟩
  · have x := x.pen
    unfold Pen0 at x ⊢
    cases hW : T.W with
    | none =>
      rw [hW] at x
      cases p with
      | none => trivial
      | some q => exact x.elim
    | some b =>
      rw [hW] at x
      cases p with
      | none => exact x.elim
      | some q =>
        obtain ⟨h1, h2, h3, h4, h5⟩ := x
        have k1 := st h1 fun ob z => nomatch z
        have k2 := st h2 fun ob z => nomatch z
        exact ⟨k1.1, k2.1, ⟨h3, k1.2⟩, ⟨h4, k2.2⟩, h5⟩
  · obtain ⟨m, ps, h1, h2, h3⟩ := x.tab a q h
    have k1 := st h1 fun ob z => nomatch z
    refine ⟨⟨m, k1.2⟩, ps, k1.1, h2, fun pos cv hc => ?_⟩
    obtain ⟨c, e1, e2, e3⟩ := h3 pos cv hc
    exact ⟨c, e1, (st e2 fun ob z => by unfold LamX.CodeO celO at z; cases z).1, fun z => e3 z.1⟩
end

/-! ### a closure is called -/
def eAct (i : Nat) (th : TH) : M Z := fun ρ p => match ρ[i]? with
  | some (some c) => match c.d with
    | .clo n => (th n p).bind fun x p2 => .ok ⟨x.1, [], [], x.2⟩ p2
    | _ => .bad
  | _ => .bad
section
variable {X : Cx} {T0 T : Tx} {Wx : WX} {k : Nat} {th : TH} {i : Nat} {x : Str} {p pos : Pos}
theorem de_act (b : BH T0 T X k Wx th) (hk : T0.kl ≤ k) (hN : X.N[i]? = some x := by rfl) (hv : Vis X.env.scope x := by first | exact Or.inl rfl | exact Or.inr (Or.inl rfl) | exact Or.inr (Or.inr rfl)) (hd : (x == ("__debug__" : Str)) = false := by decide)
    (hcd : (x == ("__classdict__" : Str)) = false := by decide) : DE X T Wx (.Call (.Name x p) [] [] pos) (eAct i th) := by
  refine ⟨fun pins s σ H Q I h => ?_⟩
  obtain ⟨H0, Mo, fp, ρ, pp, sr, h⟩ := h
  unfold eAct at h
  split at h
  case h_2 => exact h.elim
  rename_i c ec
  split at h
  case h_2 => exact h.elim
  rename_i n ed
  obtain ⟨v, e1, r⟩ := sr.cell i c ec
  have r := r.rp (G := H) hid_sub _ fun _ _ _ h => h
  rw [ed] at r
  obtain ⟨a, cc, rfl, ha, hcc⟩ := r
  refine wpAny_Call_Name_kw (thn ((pe_var (pos := p) (i := i) hN hv hd hcd).run pins s σ H (fun v H1 => v = .ref a ∧ H1 = H) I ⟨.ref a, e1, rfl, rfl⟩) fun u s1 ⟨v, H1, I1, r1, q1⟩ => ?_)
  obtain ⟨rfl, rfl⟩ := q1
  obtain rfl : u = Value.ref a := r1
  have post : FPost T (Hd Mo fp []) (hid T.sp H1) (th n pp) Q (WE Wx σ) := by
    cases e : th n pp with
    | bad =>
      rw [e] at h
      exact h.elim
    | exc c fs p2 =>
      rw [e] at h
      have h : XPost T Wx H0 Mo c fs p2 := h
      intro _ H' d vs' sub xp th' hd' hl r
      exact h σ H' d vs' (sr.sub_bs.trans (Sub.trans (hid_mono (S := fun a => T.sp a ∨ ∃ i, a ∈ fp i) (S' := T.sp) (H := H1) fun a q => .inl (.inl q)) sub)) (xp.less sr.pen fun a h => .inl h) (fun a ha => th' a (.inl ha)) hd' hl (Rps.sub (hid_mono fun a q => .inl (.inl q)) fs r)
    | ok y p2 =>
      rw [e] at h
      intro v H' rr
      obtain ⟨as, o1, o2, o3⟩ := rr.own
      have gb : Gr T H1 H' := fun a o e n => rr.grow a o (by rw [hid_out n]; exact e)
      have nw : ∀ a ∈ as, H1 a = none := fun a ha => by
        cases e : H1 a with
        | none => rfl
        | some o =>
          have := (o3 a ha).1
          by_cases q : T.sp a
          · exact absurd (.inl (sr.pen.mo q).1) (o3 a ha).2
          · rw [hid_out q, e] at this
            cases this
      refine h v H' gb (rr.pen.less sr.pen fun a h => .inl h) ⟨.of (o1.rp (hid_mono fun a q => .inl (.inl q)) _ fun a ha o ho => ?_), fun _ => ⟨as, o1, o2, fun a ha => nw a ha⟩⟩
      rw [hid_out (o3 a ha).2]
      exact ho
  obtain ⟨f1, f2⟩ := b.lam n a cc X.A X.stack s1 H1 (Hd Mo fp []) pp Q (WE Wx σ) b.g (b.r.mono (by rw [b.tk.l]; exact hk)) I1.env0 ha hcc
    (sr.pen.more (fun a h => .inl h) fun c q e h => h.elim id fun ⟨i, _, h⟩ => by
      obtain ⟨o, e1, e2⟩ := sr.ld i c h
      rw [e] at e1
      cases e1
      exact (code_ld e2).elim) (fun a h => sr.hdThere h) sr.capNow post
  refine PySem.W.callWith_F0 f1 (wpAny_call (codeAny_mono f2 fun r s' hq => ?_))
  match r, hq with
  | .error e, hq => exact passAt b.t σ pins H1 s1 e s' I1 hq
  | .ok (.ret u), hq => exact I1.after hq
end
end DL
set_option Elab.async false
set_option linter.all false
set_option maxRecDepth 100000
set_option maxHeartbeats 2000000
/-! # The data layer, part 17: what closures do; they are handed on -/
namespace DL
open PySem PySem.Spec PyProof.Rows L2

/-- what a body finds in the slots -/
def capE1 : Option Cell → Option Cell
  | some c => if c.o = 0 then some c else none
  | none => none
def capE (ρ : Env) : Env := ρ.map capE1
theorem capE_len (ρ : Env) : (capE ρ).length = ρ.length := List.length_map ..
theorem capE_at (ρ : Env) {i : Nat} {c : Cell} (h : (capE ρ)[i]? = some (some c)) : ρ[i]? = some (some c) ∧ c.o = 0 := by
  unfold capE at h
  rw [List.getElem?_map] at h
  cases e : ρ[i]? with
  | none =>
    rw [e] at h
    cases h
  | some x =>
    rw [e] at h
    cases x with
    | none => cases h
    | some x =>
      have h : (if x.o = 0 then some x else none) = some c := Option.some.inj h
      by_cases q : x.o = 0
      · rw [if_pos q] at h
        cases h
        exact ⟨rfl, q⟩
      · rw [if_neg q] at h
        cases h
/-- the body m at the slots ρ -/
def lamR (m : M Z) (ρ : Env) : Option Pen → R (D × Nat) := fun p => match m (capE ρ) p with
  | .ok z p1 => if z.lo = [] then .ok (z.d, z.f) p1 else .bad
  | .exc c fs p1 => .exc c fs p1
  | .bad => .bad
section
variable {X : Cx} {H : Hp} {s : Shared}
/-- the lambda's frame, from the cells that it caught -/
theorem lam_enter {σ : L2.St} {A : Around} {out : List PySem.Env} {E : XK} {scope : Scope} {f c' : Addr} {h₁ : Heap} {tk : Nat} (okX : X.Ok) (L : LamX.LamS X.env.scope scope) (e0 : Env0 X.prog X.w X.K X.mg X.base A out s H) (hd : A.handled = none)
    (cel : ∀ y cc, X.env.cells.lookup y = some cc → ∃ v, s.heap.IsCell cc v ∧ H cc = none) (loc : ∀ (i : Nat) (y : Str) (v : V), X.N[i]? = some y → σ[i]? = some (some v) → (X.env.scope.names.lookup y = some .cell ∨ X.env.scope.names.lookup y = some .free) → ∃ u cc, RelV v u ∧ X.env.cells.lookup y = some cc ∧ s.heap.IsCell cc (some u))
    (len : σ.length = X.N.length) (hns : h₁.Ns s.heap.objs.size fun y => ([] : List (Str × Value)).reverse.lookup y) (kp : ∀ b o, s.heap.get? b = some o → h₁.get? b = some o) :
    Inv (LamX.lamCx X A out s H E scope f c') [] σ H { s with heap := h₁, toks := tk } := by
  have has := L.has okX
  have clo : ∀ {y cc}, (cloFrom X.env.cells scope.names []).lookup y = some cc → X.env.cells.lookup y = some cc := fun {y cc} e => by
    rcases cloFrom_mem (PySem.mem_of_lookup e) with z | ⟨h1, h2⟩
    · cases z
    · obtain ⟨c1, hc⟩ := has _ h1 rfl
      have hc : X.env.cells.lookup y = some c1 := hc
      have : cc = c1 := by
        rw [h2, hc]
        rfl
      rw [this]
      exact hc
  have look : ∀ {y}, scope.names.lookup y = some .free → ∃ cc, (cloFrom X.env.cells scope.names []).lookup y = some cc := fun {y} hl => mem_lookup (cloFrom_has (cells := X.env.cells) (acc := []) (show (y, NameKind.free) ∈ scope.names from PySem.mem_of_lookup hl))
  have cellK : ∀ {cc : Addr} {v : Option Value}, s.heap.IsCell cc v → h₁.IsCell cc v := fun {cc v} h => by
    obtain ⟨o, ho, hd⟩ := h
    exact ⟨o, kp _ _ ho, hd⟩
  have noA : ∀ b : Addr, b ∉ (LamX.lamCx X A out s H E scope f c').ex := fun b z => nomatch (show b ∈ ([] : List Addr) from z)
  refine ⟨⟨e0.mod, L.kind, rfl, rfl, Nat.le_refl _, fun y z cc e1 e2 => okX.inj y z cc (clo e1) (clo e2), fun y hy => ?_, fun y cc z _ => (nomatch (show false = true from z)), fun _ => hd, Around.frames_deeper e0.frames, .inr ⟨rfl, rfl⟩, fun b z => absurd z (noA b), e0.bs, e0.bsz, fun b _ _ => noA b, fun b z => absurd z (noA b), e0.funs, e0.frf⟩,
    rfl, e0.bare, Un.kept kp, ⟨_, hns, fun i y v e1 e2 e3 => ?_⟩, fun y cc e => ?_, e0.hok.fresh (Nat.le_refl _), fun y cc e => ?_, fun q hq => (nomatch (show q ∈ ([] : List (Addr × Obj)) ++ [] from hq)), e0.hok.kept kp, len⟩
  · rcases (show scope.names.lookup y = some .cell ∨ scope.names.lookup y = some .free from hy) with z | z
    · exact absurd rfl (L.own _ (PySem.mem_of_lookup z)).2
    · exact look z
  · rcases (show Vis scope y from e3) with z | z | z
    · exact absurd rfl (L.own _ (PySem.mem_of_lookup z)).1
    · exact absurd rfl (L.own _ (PySem.mem_of_lookup z)).2
    · obtain ⟨c2, h2⟩ := look z
      obtain ⟨u, cc, r, hcc, hic⟩ := loc i y v e1 e2 (L.free _ (PySem.mem_of_lookup z) rfl)
      have c1 := clo h2
      rw [hcc] at c1
      cases c1
      exact ⟨u, r, .inr ⟨.inr z, _, h2, cellK hic⟩⟩
  · obtain ⟨v, z, _⟩ := cel y cc (clo e)
    exact ⟨v, cellK z⟩
  · obtain ⟨_, _, z⟩ := cel y cc (clo e)
    exact z
end
/-- the n-th closure does what r says -/
def LamRun (P : Program) (w : World) (K : PySem.W.Frag) (mg : Str → Option Value) (base : Heap) (T : Tx) (n : Nat) (r : Option Pen → R (D × Nat)) : Prop :=
  ∀ (a c : Addr) (A : Around) (out : List PySem.Env) (s : Shared) (H : Hp) (Mo : Addr → Prop) (p : Option Pen) (Q : VK) (E : XK), A.guards = some [] → Room T.kl A → Env0 P w K mg base A out s H →
    H a = some (T.cl n a c) → H c = some (LamX.CodeO c (T.cq n)) → PenRep T Mo p H → (∀ a, Mo a → H a ≠ none) → Cap T Mo H → FPost T Mo (hid T.sp H) (r p) Q E → PySem.W.FnAt a s.heap ∧ codeAny (model P w) A (.call (.ref a) ⟨[], []⟩) (CR (L2.CX P w) out P w H s Q E) s
theorem lam_bad {P : Program} {w : World} {K : PySem.W.Frag} {mg : Str → Option Value} {base : Heap} {T : Tx} {n : Nat} : LamRun P w K mg base T n fun _ => .bad := fun _ _ _ _ _ _ _ _ _ _ _ _ _ _ _ _ _ _ h => h.elim
/-- what the closures of a frame lean on, at a call -/
structure CapR (X : Cx) (T : Tx) (ρ : Env) (σ : L2.St) : Prop where
  ok : X.Ok
  len : σ.length = X.N.length
  rl : ρ.length = σ.length
  cel : ∀ y cc, X.env.cells.lookup y = some cc → ∃ o v, T.Z cc = some (celO cc o) ∧ o.data = .cell v
  loc : ∀ (i : Nat) (y : Str) (v : V), X.N[i]? = some y → σ[i]? = some (some v) → (X.env.scope.names.lookup y = some .cell ∨ X.env.scope.names.lookup y = some .free) → ∃ u cc o, RelV v u ∧ X.env.cells.lookup y = some cc ∧ T.Z cc = some (celO cc o) ∧ o.data = .cell (some u)
  val : ∀ (i : Nat) (c : Cell), ρ[i]? = some (some c) → c.o = 0 → ∃ v, σ[i]? = some (some v) ∧ Rp T T.C c.d v
  apart : ∀ a, T.C a ≠ none → T.Z a = none
theorem lam_good {X : Cx} {T0 T : Tx} {ρ : Env} {σ : L2.St} {n k : Nat} {m : M Z} {params : Arguments} {body : Expr} {scope : Scope} (tk : TK T0 T) (hK : T.K = X.K) (cr : CapR X T ρ σ) (L : LamX.LamS X.env.scope scope) (hk : k + 1 = T0.kl) (hcl : T.cl n = lamO X params body scope) (hcq : T.cq n = X.env.qual ++ "<lambda>")
    (hbind : ∀ (cs : List (Str × Addr)) (pm ctv : Value) (c : Addr), bindArgs (PySem.W.kla_fn "<lambda>" (X.env.qual ++ "<lambda>") params body scope cs pm (.ref c) ctv) ⟨[], []⟩ = pure [])
    (der : ∀ (A : Around) (out : List PySem.Env) (s : Shared) (H : Hp) (E : XK) (f c : Addr) (T' : Tx) (th : TH), BH T0 T' (LamX.lamCx X A out s H E scope f c) k (fun cls d _ H => E cls d H) th → DE (LamX.lamCx X A out s H E scope f c) T' (fun cls d _ H => E cls d H) body m) :
    LamRun X.prog X.w X.K X.mg X.base T n (lamR m ρ) := by
  intro a c A out s H Mo p Q E hg hr en ha hcd xp mo cap post
  have hc : Cells T.Z s.heap := fun b u e => by
    obtain ⟨o, rfl⟩ := cap.f b u e
    exact ⟨o, rfl, (en.hok b _ (cap.z b _ e)).1⟩
  have nf : ∀ b, T.Z b ≠ none → b ∉ frs out := fun b zb hb => by
    rcases z_cases T.Z b with z | ⟨u, z⟩
    · exact zb z
    · have := en.frf b hb
      rw [cap.z b u z] at this
      cases this
  rw [hcl] at ha
  rw [hcq] at hcd
  obtain ⟨⟨pm, ctv, obj⟩, _, _⟩ := en.hok a _ ha
  obtain ⟨⟨oc, vs, t, c1, c2, c3⟩, _, _⟩ := en.hok c _ hcd
  refine ⟨⟨_, _, _, _, obj⟩, ?_⟩
  rw [tk.l, ← hk] at hr
  have en' := env_out hc cap.z en
  -- the heap without the cells
  have key : codeAny (model X.prog X.w) A (.call (.ref a) ⟨[], []⟩) (CR (L2.CX X.prog X.w) out X.prog X.w (hid (zs T.Z) H) s (fun v H2 => (∀ b, T.Z b ≠ none → H2 b = none) → Q v (ovr T.Z H2)) (fun cls d H2 => (∀ b, T.Z b ≠ none → H2 b = none) → E cls d (ovr T.Z H2))) s := by
    refine PySem.W.kla_callFunE hr.depth obj rfl L.co L.gen rfl ⟨c, oc, vs, t, rfl, c1, c2, c3⟩ ?_
    rw [hbind]
    refine wpAny_pure (wpAny_newFunctionEnv (fun y hy => (L.own y hy).2) (fun y hy => absurd hy (by simp)) (fun h₁ hns hsb => ⟨(en.mod.nolimit.keeps fun b o e => (en.bs b o e).1).fresh _ hsb, ?_⟩) L.kind)
    show codeAny _ _ (.expr body (LamX.lamEnv X scope s.heap.objs.size a c)) _ _
    have kp : ∀ b o, s.heap.get? b = some o → h₁.get? b = some o := fun b o e => hsb.extBut b o (Nat.ne_of_lt (Heap.lt_size e)) (Heap.get?_push_of_some _ e)
    have zne : ∀ {b : Addr} {u : HO}, T.Z b = some u → T.Z b ≠ none := fun {b u} e => by rw [e]; exact fun q => nomatch q
    have J := lam_enter (σ := σ) (E := fun cls d H2 => (∀ b, T.Z b ≠ none → H2 b = none) → E cls d (ovr T.Z H2)) (f := a) (c' := c) (tk := s.toks + ([] : List (Str × Value)).length) cr.ok L en' hr.hd
      (fun y cc e => by
        obtain ⟨o, v, z1, z2⟩ := cr.cel y cc e
        obtain ⟨o', e1, e2⟩ := hc cc _ z1
        cases e1
        exact ⟨v, ⟨o, e2, z2⟩, hid_z' (zne z1)⟩)
      (fun i y v e1 e2 e3 => by
        obtain ⟨u, cc, o, r, z1, z2, z3⟩ := cr.loc i y v e1 e2 e3
        obtain ⟨o', e4, e5⟩ := hc cc _ z2
        cases e4
        exact ⟨u, cc, r, z1, ⟨o, e5, z3⟩⟩) cr.len hns kp
    -- the body, by its derivation
    obtain ⟨T', eT⟩ : ∃ T', T' = ({ T with Z := fun _ => none } : Tx) := ⟨_, rfl⟩
    have tx : TxEq T T' := by rw [eT]; exact ⟨rfl, rfl, rfl, rfl, rfl, rfl, rfl, rfl, rfl⟩
    have spT : T'.sp = T.sp := sp_tx tx
    have bh : BH T0 T' (LamX.lamCx X A out s (hid (zs T.Z) H) (fun cls d H2 => (∀ b, T.Z b ≠ none → H2 b = none) → E cls d (ovr T.Z H2)) scope a c) k (fun cls d _ H2 => (∀ b, T.Z b ≠ none → H2 b = none) → E cls d (ovr T.Z H2)) fun _ _ => .bad :=
      ⟨by rw [eT]; exact ⟨tk.k, tk.f, tk.c, tk.n, tk.l⟩, by rw [eT]; exact hK, hg, hr.deeper _, rfl, takes_of rfl rfl rfl rfl, passes_of rfl, lamNo⟩
    refine PySem.W.kla_codeExpr (wpAny_mono ((der _ _ _ _ _ _ _ T' _ bh).run [] _ _ (hid (zs T.Z) H) (fun v H2 => (∀ b, T.Z b ≠ none → H2 b = none) → Q v (ovr T.Z H2)) J ?_) (fun v s' hq => ?_) fun e s' hq => hq)
    · have xp' : PenRep T' (fun b => Mo b ∧ T.Z b = none) p (hid (zs T.Z) H) := (xp.out cap.f cap.z).tx tx
      have hz : ∀ {b : Addr} {o : HO}, hid (zs T.Z) H b = some o → H b = some o ∧ T.Z b = none := fun {b o} e => by
        obtain ⟨e1, e2⟩ := hid_some e
        exact ⟨e1, Classical.byContradiction fun z => e2 z⟩
      have capN : Sub T.C (hid (fun b => Mo b ∧ T.Z b = none) (hid T.sp (hid (zs T.Z) H))) := fun b o e => by
        obtain ⟨e1, e2⟩ := hid_some (cap.c b o e)
        have z0 := cr.apart b (by rw [e]; exact fun q => nomatch q)
        rw [hid_out fun q => e2 q.1, hid_out fun q => e2 (xp.mo q).1, hid_z z0]
        exact e1
      refine ⟨hid T.sp (hid (zs T.Z) H), fun b => Mo b ∧ T.Z b = none, fun _ => [], capE ρ, p, ⟨by rw [capE_len]; exact cr.rl, xp', fun b hb => ?_, hid_sub, fun b e => hid_in (by rw [← spT]; exact e), ⟨by rw [eT]; exact capN, by rw [eT]; exact fun b o e => (nomatch e), by rw [eT]; exact fun b o e => (nomatch e)⟩, fun i b h => absurd h (by simp), fun _ => List.nodup_nil, fun i j b h => absurd h (by simp), fun i cc e => ?_, fun _ _ => rfl⟩, ?_⟩
      · rw [hid_z hb.2]
        exact mo b hb.1
      · obtain ⟨e1, e2⟩ := capE_at ρ e
        obtain ⟨v, e3, r⟩ := cr.val i cc e1 e2
        refine ⟨v, e3, ?_⟩
        rw [e2]
        refine ⟨rfl, Rp.tx tx _ (Rp.sub (capN.trans (hid_step (fun b o eb nb => (hid_some eb).1) fun b q => .inl ?_)) _ r)⟩
        rcases q with q | ⟨_, _, q⟩
        · exact q
        · cases q
      · have grow : ∀ {H2 : Hp}, (∀ b o, hid (zs T.Z) H b = some o → ¬ T.sp b → H2 b = some o) → Sub (hid T.sp H) (ovr T.Z H2) := fun {H2} g b o e => by
          obtain ⟨e1, e2⟩ := hid_some e
          rcases z_cases T.Z b with z | ⟨u, z⟩
          · rw [ovr_out z]
            exact g b o (by rw [hid_z z]; exact e1) e2
          · rw [ovr_in z, ← cap.z b u z]
            exact e1
        have penB : ∀ {H2 : Hp} {p1 : Option Pen}, (∀ b, T.Z b ≠ none → H2 b = none) → PenRep T' (fun b => Mo b ∧ T.Z b = none) p1 H2 → PenRep T Mo p1 (ovr T.Z H2) := fun {H2 p1} nn x =>
          ((x.tx tx.symm).sub (sub_ovr nn)).more (fun b h => h.1) fun cc q e h => ⟨h, by
            rcases z_cases T.Z cc with z | ⟨u, z⟩
            · exact z
            · obtain ⟨o, rfl⟩ := cap.f cc u z
              rw [ovr_in z] at e
              cases e⟩
        have moB : ∀ {H2 : Hp}, (∀ b, Mo b ∧ T.Z b = none → H2 b ≠ none) → ∀ b, Mo b → ovr T.Z H2 b ≠ none := fun {H2} th b hb => by
          rcases z_cases T.Z b with z | ⟨u, z⟩
          · rw [ovr_out z]
            exact th b ⟨hb, z⟩
          · rw [ovr_in z]
            exact fun q => nomatch q
        have see : ∀ {H2 : Hp} {as : List Addr} {S : Addr → Prop}, (∀ b, T.Z b ≠ none → H2 b = none) → (∀ b, (Mo b ∧ T.Z b = none) ∨ b ∈ as → S b) → Sub (hid S H2) (hid (MoU Mo as) (ovr T.Z H2)) := fun {H2 as S} nn k => hid_step (fun b o e _ => sub_ovr nn b o e) fun b q => by
          rcases z_cases T.Z b with z | ⟨u, z⟩
          · exact .inl (k b (q.elim (fun q => .inl ⟨q, z⟩) .inr))
          · exact .inr (nn b (zne z))
        unfold lamR at post
        cases em : m (capE ρ) p with
        | bad =>
          rw [em] at post
          exact post.elim
        | exc ec fs p1 =>
          rw [em] at post
          have post : XPost T (fun cls d _ H => E cls d H) (hid T.sp H) Mo ec fs p1 := post
          intro σ' H2 d vs' sub xp2 th hd hl r nn
          rw [tx.c]
          rw [tx.n] at hd hl
          have zd : T.Z d = none := by
            rcases z_cases T.Z d with z | ⟨u, z⟩
            · exact z
            · rw [nn d (zne z)] at hd
              cases hd
          refine post σ' (ovr T.Z H2) d vs' (grow fun b o e n => sub b o (by rw [hid_out n]; exact e)) (penB nn xp2) (moB th) (by rw [ovr_out zd]; exact hd) hl ?_
          have := Rps.sub (see (as := []) nn fun b h => h.elim id fun h => absurd h (by simp)) _ (Rps.tx tx.symm _ r)
          rw [moU_nil] at this
          exact this
        | ok z p1 =>
          rw [em] at post
          have post : FPost T Mo (hid T.sp H) (if z.lo = [] then .ok (z.d, z.f) p1 else .bad) Q E := post
          by_cases ql : z.lo = []
          case neg =>
            rw [if_neg ql] at post
            exact post.elim
          rw [if_pos ql] at post
          intro v H2 g x zr nn
          have gg : ∀ b o, hid (zs T.Z) H b = some o → ¬ T.sp b → H2 b = some o := fun b o e n => g b o e (by rw [spT]; exact n)
          have lb : z.b = [] := (List.append_eq_nil_iff.mp ql).1
          have lc : z.c = [] := (List.append_eq_nil_iff.mp ql).2
          refine post v (ovr T.Z H2) ⟨grow gg, penB nn x, moB fun b hb e => ?_, ?_⟩
          · by_cases q : T'.sp b
            · exact (x.mo q).2 e
            · cases e1 : hid (zs T.Z) H b with
              | none =>
                rw [hid_z hb.2] at e1
                exact mo b hb.1 e1
              | some o =>
                rw [g b o e1 q] at e
                cases e
          · by_cases q : z.f = 0
            · refine ⟨[], ?_, List.nodup_nil, fun b h => absurd h (by simp)⟩
              rw [q]
              exact ⟨rfl, Rp.sub (see nn fun b h => .inl (h.elim id fun h => absurd h (by simp))) _ (Rp.tx tx.symm _ (zr.all (b := []) fun i hi => by rw [ql] at hi; exact hi))⟩
            · obtain ⟨as, o1, o2, o3⟩ := zr.own q
              have az : ∀ b ∈ as, T.Z b = none := fun b hb => by
                rcases z_cases T.Z b with z' | ⟨u, z'⟩
                · exact z'
                · exact absurd (nn b (zne z')) (o1.there _ b hb)
              refine ⟨as, (OwnR.tx tx.symm _ o1).step (see nn fun b h => h.elim (fun h => .inl (.inl h)) .inr) _ fun b hb o ho => by rw [ovr_out (az b hb)]; exact ho, o2, fun b hb => ?_⟩
              have n1 := o3 b hb
              rw [hid_z (az b hb)] at n1
              refine ⟨?_, fun q => mo b q n1⟩
              cases e : hid T.sp H b with
              | none => rfl
              | some o =>
                rw [(hid_some e).1] at n1
                cases n1
    · obtain ⟨w', H', J', rv, q⟩ := hq
      exact ⟨w', H', J'.os, J'.bare, J'.base, J'.hok, rv, q⟩
  refine codeAny_mono key fun r s' hq => ?_
  match r, hq with
  | .error e, hq => exact cx_in hc cap.z nf (fun cls d H2 nn q => q nn) hq
  | .ok (.ret u), hq =>
    obtain ⟨v, H1, os, bare, un, hok, rv, H2, q, nn, e⟩ := ce_in hc cap.z nf hq
    exact ⟨v, H1, os, bare, un, hok, rv, by rw [e]; exact q nn⟩
end DL
set_option Elab.async false
set_option linter.all false
set_option maxRecDepth 100000
set_option maxHeartbeats 2000000
/-! # The data layer, part 18: closures are handed on -/
namespace DL
open PySem PySem.Spec PyProof.Rows L2

/-- a call whose callee may call the frame's closures (none of their errors leaves it) -/
def eCallL (thk : Env → TH) (fm : TH → FM) (g : M (List Z)) : M Z := fun ρ p => (g ρ p).bind fun zs p1 => match fm (thk ρ) (zs.map (·.d)) p1 with
  | .ok x p2 => .ok ⟨x.1, zs.flatMap (·.lo), zs.flatMap (·.lo), x.2⟩ p2
  | _ => .bad
open Classical in
/-- the cells of a frame, as they stand -/
noncomputable def cellsZ (X : Cx) (h : Heap) : Hp := fun a => if (∃ y, X.env.cells.lookup y = some a) then (h.get? a).map (celO a) else none
theorem cellsZ_some {X : Cx} {h : Heap} {a : Addr} {u : HO} (e : cellsZ X h a = some u) : (∃ y, X.env.cells.lookup y = some a) ∧ ∃ o, h.get? a = some o ∧ u = celO a o := by
  unfold cellsZ at e
  by_cases q : ∃ y, X.env.cells.lookup y = some a
  · rw [if_pos q] at e
    refine ⟨q, ?_⟩
    cases e1 : h.get? a with
    | none =>
      rw [e1] at e
      cases e
    | some o =>
      rw [e1] at e
      exact ⟨o, rfl, (Option.some.inj e).symm⟩
  · rw [if_neg q] at e
    cases e
theorem cellsZ_at {X : Cx} {h : Heap} {a : Addr} {y : Str} {o : Obj} (q : X.env.cells.lookup y = some a) (e : h.get? a = some o) : cellsZ X h a = some (celO a o) := by
  unfold cellsZ
  rw [if_pos ⟨y, q⟩, e]
  rfl
section
variable {X : Cx} {pins : List (Addr × Obj)} {σ : L2.St} {H : Hp} {s : Shared}
theorem cells_apart (I : Inv X pins σ H s) (hfn : ∀ y, X.fn y = true) {a : Addr} {y : Str} (q : X.env.cells.lookup y = some a) : a ∉ frs X.stack ∧ (∀ o, X.base.get? a = some o → False) ∧ H a = none := by
  have sz := I.ok.cab y a (hfn y) q
  refine ⟨fun hb => ?_, fun o e => ?_, I.freeC y a q⟩
  · rcases List.mem_cons.mp (I.stkSub a hb) with z | z
    · obtain ⟨v, o, ho, hd⟩ := I.cell y a q
      obtain ⟨m, ⟨o2, es, ep, e1, e2, _⟩, _⟩ := I.loc
      rw [← z, ho] at e1
      cases e1
      rw [hd] at e2
      cases e2
    · obtain ⟨_, o, ho, _⟩ := I.ok.funs.mem z
      exact absurd (Nat.lt_of_lt_of_le (Heap.lt_size ho) sz) (Nat.lt_irrefl _)
  · exact absurd (Nat.lt_of_lt_of_le (Heap.lt_size e) (Nat.le_trans I.ok.bsz sz)) (Nat.lt_irrefl _)
end
section
variable {X : Cx} {k j : Nat} {f : Addr} {fm : TH → FM} {thk : Env → TH} {th : TH} {x : Str} {p pos : Pos} {e : Expr} {es : List Expr} {g : M (List Z)} {T0 T : Tx} {Wx : WX}
theorem de_callL (b : BH T0 T X j Wx th) (hfn : ∀ y, X.fn y = true) (F : FnG X.prog X.w X.K X.mg X.base k f (spD X.prog X.w X.K X.mg X.base T0 fm)) (hj : k ≤ j) (hg : Gl X x) (hm : X.mg x = some (.ref f)) (hk : PySem.W.keepIn X.K (.ref f) = true) (ha : DA X T Wx (e :: es) g)
    (lams : ∀ (T' : Tx) (ρ : Env) (σ : L2.St) (n : Nat), TK T0 T' → T'.K = X.K → T'.cl = T.cl → T'.cq = T.cq → CapR X T' ρ σ → LamRun X.prog X.w X.K X.mg X.base T' n (thk ρ n))
    (hdb : (x == ("__debug__" : Str)) = false := by decide) (he : starEach (e :: es) X.env = (false, eval e X.env) :: starEach es X.env := by rfl) (hpl : (backTo pos (starEach es X.env)).any (·.1) = false := by rfl) : DE X T Wx (.Call (.Name x p) (e :: es) [] pos) (eCallL thk fm g) := by
  refine ⟨fun pins s σ H Q I h => wpAny_Call_Name_kw (ld_glob I hg hm ?_ hdb)⟩
  obtain ⟨H0, Mo, fp, ρ, pp, sr, h⟩ := h
  unfold eCallL at h
  have args : upA T Wx g σ H fun vs H1 => ∃ zs p1 y p2, SRep T H0 Mo fp ρ p1 σ H1 ∧ ZReps T Mo fp H1 zs vs ∧ Gr T H H1 ∧ fm (thk ρ) (zs.map (·.d)) p1 = .ok y p2 ∧ ∀ v H', Gr T H H' → PenRep T Mo p2 H' → ZRep T Mo fp H ⟨y.1, zs.flatMap (·.lo), zs.flatMap (·.lo), y.2⟩ v H' → Q v H' := by
    refine ⟨H0, Mo, fp, ρ, pp, sr, ?_⟩
    cases e1 : g ρ pp with
    | bad =>
      rw [e1] at h
      exact h.elim
    | exc c fs p1 =>
      rw [e1] at h
      exact h
    | ok zs p1 =>
      rw [e1] at h
      have h : EPost T Wx H0 Mo fp H H (match fm (thk ρ) (zs.map (·.d)) p1 with | .ok x p2 => .ok ⟨x.1, zs.flatMap (·.lo), zs.flatMap (·.lo), x.2⟩ p2 | _ => .bad) fun _ _ v H' => Q v H' := h
      intro vs H1 g1 x1 zr
      cases e2 : fm (thk ρ) (zs.map (·.d)) p1 with
      | bad =>
        rw [e2] at h
        exact h.elim
      | exc c fs p2 =>
        rw [e2] at h
        exact h.elim
      | ok y p2 =>
        rw [e2] at h
        exact ⟨zs, p1, y, p2, sr.grows g1 x1, zr, g1, e2, h⟩
  refine PySem.W.callWith_K (h₀ := X.base) I.ok.mod.kin hk (thn (ha.run pos pins s σ H _ I args) fun us s1 ⟨vs, H1, I1, rv, zs', p1, y, p2, s1r, zr, g1, efm, post⟩ => ⟨I1.kIn, ?_⟩) he hpl
  -- the cells become known
  obtain ⟨Zc, eZ⟩ : ∃ Zc, Zc = cellsZ X s1.heap := ⟨_, rfl⟩
  have zsome : ∀ {a u}, Zc a = some u → (∃ y, X.env.cells.lookup y = some a) ∧ ∃ o, s1.heap.get? a = some o ∧ u = celO a o := fun {a u} z => cellsZ_some (by rw [← eZ]; exact z)
  have zex : ∀ {a}, Zc a ≠ none → ∃ y, X.env.cells.lookup y = some a := fun {a} z => by
    rcases z_cases Zc a with q | ⟨u, q⟩
    · exact absurd q z
    · exact (zsome q).1
  have hc : Cells Zc s1.heap := fun a u z => by
    obtain ⟨_, o, h1, h2⟩ := zsome z
    exact ⟨o, h2, h1⟩
  have hn : ∀ a, Zc a ≠ none → H1 a = none := fun a z => by
    obtain ⟨y, q⟩ := zex z
    exact (cells_apart I1 hfn q).2.2
  have hf : ∀ a, Zc a ≠ none → a ∉ frs X.stack := fun a z => by
    obtain ⟨y, q⟩ := zex z
    exact (cells_apart I1 hfn q).1
  have hb : ∀ a o, X.base.get? a = some o → Zc a = none := fun a o eb => by
    rcases z_cases Zc a with q | ⟨u, q⟩
    · exact q
    · obtain ⟨⟨y, q⟩, _⟩ := zsome q
      exact ((cells_apart I1 hfn q).2.1 o eb).elim
  have zne : ∀ {a u}, Zc a = some u → Zc a ≠ none := fun {a u} z => by rw [z]; exact fun q => nomatch q
  obtain ⟨T', eT⟩ : ∃ T', T' = ({ T with C := hid (Hd Mo fp []) H1, Z := Zc } : Tx) := ⟨_, rfl⟩
  have tx : TxEq T T' := by rw [eT]; exact ⟨rfl, rfl, rfl, rfl, rfl, rfl, rfl, rfl, rfl⟩
  have eC : T'.C = hid (Hd Mo fp []) H1 := by rw [eT]
  have eZ' : T'.Z = Zc := by rw [eT]
  have tk' : TK T0 T' := by rw [eT]; exact ⟨b.tk.k, b.tk.f, b.tk.c, b.tk.n, b.tk.l⟩
  have hK' : T'.K = X.K := by rw [eT]; exact b.hK
  have cr : CapR X T' ρ σ := by
    refine ⟨I1.ok, I1.len, sr.len, fun y cc q => ?_, fun i y v e1 e2 e3 => ?_, fun i c e1 e2 => ?_, fun a z => ?_⟩
    · obtain ⟨v, o, ho, hd⟩ := I1.cell y cc q
      exact ⟨o, v, by rw [eZ', eZ]; exact cellsZ_at q ho, hd⟩
    · obtain ⟨m, hns, lo⟩ := I1.loc
      obtain ⟨u, r, lk⟩ := lo i y v e1 e2 (e3.elim (fun z => .inr (.inl z)) fun z => .inr (.inr z))
      rcases lk with ⟨k1, _⟩ | ⟨_, cc, k2, o, ho, hd⟩
      · have k1 : X.env.scope.names.lookup y = some .local := k1
        rcases e3 with z | z <;> rw [z] at k1 <;> cases k1
      · exact ⟨u, cc, o, r, k2, by rw [eZ', eZ]; exact cellsZ_at k2 ho, hd⟩
    · obtain ⟨v, e3, r⟩ := s1r.cell i c e1
      rw [e2] at r
      refine ⟨v, e3, Rp.tx tx _ ?_⟩
      rw [eC]
      exact r.2
    · rw [eC] at z
      rw [eZ']
      rcases z_cases Zc a with q | ⟨u, q⟩
      · exact q
      · cases e : hid (Hd Mo fp []) H1 a with
        | none => exact absurd e z
        | some o =>
          have e1 := (hid_some e).1
          rw [hn a (zne q)] at e1
          cases e1
  -- the callee runs there
  obtain ⟨ps, fd, h1, h2, h3⟩ := F.ex
  have subO := sub_ovr hn
  have xo : PenRep T (fun a => Hd Mo fp (zs'.flatMap (·.lo)) a ∨ Zc a ≠ none) p1 (ovr Zc H1) := (s1r.pen.sub subO).more (fun a h => .inl (.inl h)) fun c q ec h => by
    have nz : Zc c = none := by
      rcases z_cases Zc c with z | ⟨u, z⟩
      · exact z
      · obtain ⟨_, o, _, rfl⟩ := zsome z
        rw [ovr_in z] at ec
        cases ec
    rw [ovr_out nz] at ec
    rcases h with (h | ⟨i, _, h⟩) | h
    · exact h
    · obtain ⟨o, e1, e2⟩ := s1r.ld i c h
      rw [ec] at e1
      cases e1
      exact (code_ld e2).elim
    · exact absurd nz h
  have see : ∀ {H' : Hp} {S : Addr → Prop}, (∀ a, S a → Hd Mo fp (zs'.flatMap (·.lo)) a ∨ Zc a ≠ none ∨ H' a = none) → True := fun _ => trivial
  have sp : spD X.prog X.w X.K X.mg X.base T0 fm vs (ovr Zc H1) (fun v H' => Sub Zc H' → Q v (hid (zs Zc) H')) (fun _ _ _ => False) := by
    refine ⟨T', fun a => Hd Mo fp (zs'.flatMap (·.lo)) a ∨ Zc a ≠ none, zs'.map (·.d), p1, thk ρ, tk', xo.tx tx, fun a h => ?_, ⟨fun a o ea => ?_, fun a o ea => ?_, fun a u ea => ?_⟩, fun n a c A out s H Mo p Q E => lams T' ρ σ n tk' hK' tx.l tx.q cr a c A out s H Mo p Q E, ?_, ?_⟩
    · rcases h with h | h
      · cases e1 : H1 a with
        | none => exact absurd e1 (s1r.hdThere h)
        | some o =>
          rw [subO a o e1]
          exact fun q => nomatch q
      · rcases z_cases Zc a with z | ⟨u, z⟩
        · exact absurd z h
        · rw [ovr_in z]
          exact fun q => nomatch q
    · rw [eC] at ea
      obtain ⟨e1, e2⟩ := hid_some ea
      rw [hid_out]
      · exact subO a o e1
      · intro q
        rcases q with q | q
        · exact e2 (q.mono fun i hi => absurd hi (by simp))
        · rw [hn a q] at e1
          cases e1
    · rw [eZ'] at ea
      exact ovr_in ea
    · rw [eZ'] at ea
      obtain ⟨_, o, _, h⟩ := zsome ea
      exact ⟨o, h⟩
    · refine Rps.tx tx _ (Rps.sub (hid_step (fun a o ea _ => subO a o ea) fun a q => ?_) _ (zr.rps (b := zs'.flatMap (·.lo)) fun z hz i hi => List.mem_flatMap.mpr ⟨z, hz, hi⟩))
      exact q.elim .inl fun q => .inr (hn a q)
    · show FPost T' _ _ (fm (thk ρ) (zs'.map (·.d)) p1) _ _
      rw [efm]
      intro v H' rr sub
      obtain ⟨as, o1, o2, o3⟩ := rr.own
      have spT : T'.sp = T.sp := sp_tx tx
      have gb : Gr T H1 (hid (zs Zc) H') := fun a o ea n => by
        have nz : Zc a = none := by
          rcases z_cases Zc a with z | ⟨u, z⟩
          · exact z
          · rw [hn a (zne z)] at ea
            cases ea
        rw [hid_z nz]
        exact rr.grow a o (by rw [hid_out (by rw [spT]; exact n)]; exact subO a o ea)
      have nas : ∀ a ∈ as, Zc a = none ∧ H1 a = none := fun a ha => by
        have nz : Zc a = none := Classical.byContradiction fun z => (o3 a ha).2 (.inr z)
        refine ⟨nz, ?_⟩
        cases e1 : H1 a with
        | none => rfl
        | some o =>
          have := (o3 a ha).1
          by_cases q : T'.sp a
          · rw [spT] at q
            exact absurd (.inl (.inl (s1r.pen.mo q).1)) (o3 a ha).2
          · rw [hid_out q, subO a o e1] at this
            cases this
      have pen' : PenRep T Mo p2 (hid (zs Zc) H') := by
        have := PenRep.out (fun a u ea => (zsome ea).2.elim fun o h => ⟨o, h.2⟩) sub (rr.pen.tx tx.symm)
        exact this.less s1r.pen fun a h => ⟨.inl (.inl h), by
          rcases z_cases Zc a with z | ⟨u, z⟩
          · exact z
          · exact absurd (hn a (zne z)) (s1r.mo a h)⟩
      have st : ∀ {S : Addr → Prop}, (∀ a, S a → (Hd Mo fp (zs'.flatMap (·.lo)) a ∨ Zc a ≠ none) ∨ a ∈ as) → Sub (hid (MoU (fun a => Hd Mo fp (zs'.flatMap (·.lo)) a ∨ Zc a ≠ none) as) H') (hid S (hid (zs Zc) H')) := fun {S} k a o ea => by
        obtain ⟨e1, e2⟩ := hid_some ea
        have nz : Zc a = none := Classical.byContradiction fun z => e2 (.inl (.inr z))
        rw [hid_out fun q => e2 (k a q), hid_z nz]
        exact e1
      refine post v _ (g1.trans gb) pen' ⟨.of (Rp.tx tx.symm _ (o1.rp (F := hid (MoU (fun a => Hd Mo fp (zs'.flatMap (·.lo)) a ∨ Zc a ≠ none) as) H') (st fun a q => .inl (.inl q)) _ fun a ha o ho => ?_)), fun _ => ⟨as, (OwnR.tx tx.symm _ o1).step (st fun a q => q.elim (fun q => .inl (.inl q)) .inr) _ fun a ha o ho => by rw [hid_z (nas a ha).1]; exact ho, o2, fun a ha => g1.back (nas a ha).2 fun z => s1r.nw a z (nas a ha).2⟩⟩
      rw [hid_out fun q => (o3 a ha).2 (.inl q), hid_z (nas a ha).1]
      exact ho
  have hl : (us ++ []).length = ps.length := by rw [List.append_nil, ← rv.length]; exact h2 vs _ _ _ sp
  have hbt := h1 s1 us I1.kIn hl
  rw [List.append_nil] at hbt
  refine wpAny_call (codeAny_mono (h3 X.A X.stack s1 (ovr Zc H1) ⟨us, []⟩ us vs _ _ b.g (b.r.mono hj) (env_in hc hn hf hb I1.env0) hbt rv sp) fun r s' hq => ?_)
  match r, hq with
  | .error e, hq => exact (passL_false hq).elim
  | .ok (.ret u), hq =>
    obtain ⟨v, H2, os, bare, un, hok, ru, H', q, sub, e2⟩ := ce_out hc hn hf hq
    exact I1.after ⟨v, H2, os, bare, un, hok, ru, by rw [e2]; exact q sub⟩
end
end DL
set_option Elab.async false
set_option linter.all false
set_option maxRecDepth 100000
set_option maxHeartbeats 2000000
/-! # The data layer, part 19: try with several clauses «except C as x» -/
namespace DL
open PySem PySem.Spec PyProof.Rows L2

abbrev Cl := Value × (Addr → Value → Option Addr → TS)
/-- the ends of a suite: its name goes -/
def endsAs (i : Nat) (D : Ends) : Ends := ⟨fun τ G => D.nx (τ.set i none) G, D.rt, fun τ G => D.bk (τ.set i none) G, fun τ G => D.ct (τ.set i none) G⟩
def wAsM (K : PySem.W.Frag) (i len : Nat) (Wout : WX) (D : Ends) : List Cl → WX
  | [] => Wout
  | cl :: more => fun cls d σ H => ∃ t, PySem.W.exmOne K cls cl.1 = some t ∧ (t = true → σ.length = len → ∀ x, H x = none → cl.2 x cls d (endsAs i D) (σ.set i (some (.ref x))) H) ∧ (t = false → wAsM K i len Wout D more cls d σ H)
inductive ClsOk (X : Cx) (n : Str) : List ExceptHandler → List Cl → Prop
  | nil : ClsOk X n [] []
  | cons {y : Str} {cv : Value} {ts : Addr → Value → Option Addr → TS} {b1 : Stmt} {su : List Stmt} {q1 q2 : Pos} {hs : List ExceptHandler} {l : List Cl} (nm : Names X y cv)
      (sr : ∀ (x : Addr) (ob : Obj) (cls : Value) (d : Option Addr) (pl : List (Addr × Obj)), L2.Zc cls d ob → (∃ vs, ob.data = .fields vs) → PSs (X.suite x ((x, ob) :: pl)) (b1 :: su) (ts x cls d)) (t : ClsOk X n hs l) :
      ClsOk X n (.ExceptHandler (some (.Name y q1)) (some n) (b1 :: su) q2 :: hs) ((cv, ts) :: l)
section
variable {X : Cx} {n : Str} {i : Nat} {body : List Stmt} {h1 : ExceptHandler} {hs : List ExceptHandler} {l : List Cl} {pos : Pos} {tb : WX → TS} {Wout : WX}
theorem ps_try_asM (stk : X.stack = X.env :: X.outer) (frm : X.env.frame = some X.env.locals) (nd : X.N.Nodup) (at_ : X.N[i]? = some n) (loc : X.env.kindOf n = some .local) (tak : Takes X Wout)
    (bd : ∀ (W : WX) (pl : List (Addr × Obj)) (xe : Value → Shared → Prop), Takes (X.tr pl xe) W → PassesOwn (model X.prog X.w) X.A X.env xe → PSs (X.tr pl xe) body (tb W)) (cls_ok : ClsOk X n (h1 :: hs) l) :
    PS X (.Try body (h1 :: hs) [] [] pos) fun D σ H => tb (wAsM X.K i X.N.length Wout D l) D σ H := by
  refine ⟨fun pl s σ H D J0 rd => ?_⟩
  have okx := J0.ok
  have frames : X.A.frames = some (X.env :: X.outer) := by rw [okx.frames, stk]
  refine wpAny_Try_except ?_
  refine wpAny_mono ((bd (wAsM X.K i X.N.length Wout D l) (X.pn ++ pl) (fun ev t => wpAny (model X.prog X.w) X.A (noteFrame ev X.env) (fun _ t2 => wpAny (model X.prog X.w) X.A (setFlight ev none) (fun _ t3 => wpAny (model X.prog X.w) X.A (handleBy ev X.env (h1 :: hs)) (SP X pl D) X.xe t3) X.xe t2) X.xe t)
    (fun u t air => ?_) PassesOwn.looking).run [] s σ H D (J0.toTry _) rd) (fun fl t done => ?_) (fun ev t z => z)
  · obtain ⟨x, B, tI, pl', τ, G, cls, d, rfl, JT, nb, up, sky, nx, os, gens, wish⟩ := air
    have J : Inv X pl τ G tI := JT.ofTry okx
    rw [stk] at sky
    show wpAny (model X.prog X.w) X.A (noteFrame (.ref x) X.env) _ _ _
    refine Sky.land Zc.steady frames frm sky fun m3 fly3 up3 => ?_
    have J3 : Inv X pl τ G { t with heap := m3 } := J.landed nb fly3.1 (up.trans up3) os gens
    obtain ⟨ob3, us3, at3, z3, d3⟩ := fly3.there
    have off : x ∉ frs (X.env :: X.outer) := fun hm => by
      obtain ⟨_, o2, e2, hnf⟩ := fly3.2.2.1.mem hm
      rw [at3] at e2
      cases e2
      exact hnf _ d3
    have offL : x ≠ X.env.locals := fun z => off (List.mem_filterMap.mpr ⟨X.env, List.mem_cons_self, by rw [frm, z]⟩)
    have offF : x ∉ X.fs := fun hm => by
      obtain ⟨ee, he, q⟩ := List.mem_filterMap.mp hm
      exact off (List.mem_filterMap.mpr ⟨ee, List.mem_cons_of_mem _ he, q⟩)
    have S3 := J3.suite at3 d3 nx offL offF
    have step : ∀ {hh : List ExceptHandler} {ll : List Cl}, ClsOk X n hh ll → wAsM X.K i X.N.length Wout D ll cls d τ G → wpAny (model X.prog X.w) X.A (handleBy (.ref x) X.env hh) (SP X pl D) X.xe { t with heap := m3 } := by
      intro hh ll ck
      induction ck with
      | nil =>
        intro w
        refine wpAny_handleBy_nil ?_
        obtain ⟨_, _, _, oe, vs, tr, oT, ts', he, hz, hd, h1', _⟩ := id fly3
        unfold PySem.passOn
        refine wpAny_bind (wpAny_field he hd h1' ?_)
        rw [if_neg (show ¬ ((Value.ref tr == Value.none) = true) by simp)]
        have last : wpAny (model X.prog X.w) X.A (setFlight (.ref x) X.env.frame) (fun _ t4 => wpAny (model X.prog X.w) X.A (throw (.ref x) : Sem Flow) (SP X pl D) X.xe t4) X.xe { t with heap := m3 } := by
          rw [frm]
          refine HandSPX.setFlight_upZ fly3 fun m4 held4 up4 => wpAny_throw (tak _ _ ⟨x, B, tI, pl, τ, G, cls, d, rfl, J, nb, (up.trans up3).trans up4, .inr (.inr ?_), nx, os, gens, w⟩)
          rw [stk]
          exact held4
        first
          | exact wpAny_bind (wpAny_pure (wpAny_bind last))
          | exact wpAny_bind last
      | @cons y cv ts b1 su q1 q2 hs2 l2 nm sr rest ih =>
        rintro ⟨b, e1, yes, no⟩
        refine wpAny_handleBy_cons (codeAny_handlers_test ?_) (fun q => nomatch q)
        have tyL : PySem.W.Looks (model X.prog X.w) m3 (typeOf (.ref x)) cls := fun A Q E s' k q => wpAny_typeOf_ref (k _ _ at3) (by rw [z3.1]; exact q)
        have mtL := PySem.W.exm_one (M := model X.prog X.w) J3.kIn tyL e1
        have read : ∀ {Q E : Value → Shared → Prop}, Q cv { t with heap := m3 } → wpAny (model X.prog X.w) (X.A.mark (some (.ref x))) (eval (.Name y q1) X.env) Q E { t with heap := m3 } := fun {Q E} q => by
          obtain ⟨g, dbg, hm | ⟨hm, hv, hnn⟩⟩ := nm
          · exact ld_glob (X := X.suite x ((x, ob3) :: (X.pn ++ pl))) S3 g hm q dbg
          · exact ld_blt (X := X.suite x ((x, ob3) :: (X.pn ++ pl))) S3 g hm hv q hnn dbg
        refine read (mtL.here ?_)
        cases b with
        | false => exact ih (no rfl)
        | true =>
          refine codeAny_handlers_suite_as ?_
          refine HandSPX.lands_againZ fly3 fun m4 fly4 up4 => ?_
          have J4 : Inv X pl τ G { t with heap := m4 } := J.landed nb fly4.1 ((up.trans up3).trans up4) os gens
          obtain ⟨ob4, us4, at4, z4, d4⟩ := fly4.there
          refine store_ok (X := X.suite x ((x, ob4) :: (X.pn ++ pl))) (v := .ref x) (J4.suite at4 d4 nx offL offF) nd at_ (.inl loc) rfl (fun t5 S5 => ?_) (.inr loc)
          refine wpAny_mono ((sr x ob4 cls d (X.pn ++ pl) z4 ⟨_, d4⟩).run [] t5 _ G _ S5 (yes rfl J.len x nx)) (fun fl t6 dn => ?_) fun _ _ z => z.elim
          have bye : ∀ {τ6 : L2.St} {G6 : Hp} {Q : Shared → Prop}, Inv (X.suite x ((x, ob4) :: (X.pn ++ pl))) [] τ6 G6 t6 → (∀ t7, Inv X pl (τ6.set i none) G6 t7 → Q t7) → wpAny (model X.prog X.w) X.A (do bindName X.env n .none; unbindBehindTheSuite X.env n q2) (fun _ t7 => Q t7) X.xe t6 :=
            fun {τ6 G6 Q} S6 k => gone_ok (S6.unsuite okx) nd at_ loc k
          match fl, dn with
          | .next, ⟨τ6, G6, S6, q6⟩ => exact bye S6 fun t7 J7 => ⟨_, _, J7, q6⟩
          | .brk, ⟨τ6, G6, S6, q6⟩ => exact bye S6 fun t7 J7 => ⟨_, _, J7, q6⟩
          | .cont, ⟨τ6, G6, S6, q6⟩ => exact bye S6 fun t7 J7 => ⟨_, _, J7, q6⟩
          | .ret u, ⟨v6, τ6, G6, S6, r6, q6⟩ => exact bye S6 fun t7 J7 => ⟨_, _, _, J7, r6, q6⟩
    exact step cls_ok wish
  · match fl, done with
    | .next, ⟨τ, G, J, q⟩ => exact wpAny_execs_nil ⟨τ, G, J.ofTry okx, q⟩
    | .brk, ⟨τ, G, J, q⟩ => exact ⟨τ, G, J.ofTry okx, q⟩
    | .cont, ⟨τ, G, J, q⟩ => exact ⟨τ, G, J.ofTry okx, q⟩
    | .ret u, ⟨v, τ, G, J, r, q⟩ => exact ⟨v, τ, G, J.ofTry okx, r, q⟩
end

/-! ### the fault of a call -/
/-- the classes that are told, with their words, in the order of the clauses -/
abbrev FTab := List (Nat × Str × List Str)
def faultD : FTab → Nat → List D → Option D
  | [], _, _ => none
  | (j, tag, _) :: r, c, fs => if c = j then some (.tup (.str tag :: fs.reverse)) else faultD r c fs
def sFault (i : Nat) (tab : FTab) (th : TH) : SM := fun ρ p => match ρ[i]? with
  | some (some c) => match c.d with
    | .clo n => match th n p with
      | .ok _ p1 => .nx ρ p1
      | .exc c fs p1 => match faultD tab c fs with | some d => .ret ⟨d, [], [], 0⟩ p1 | none => .bad
      | .bad => .bad
    | _ => .bad
  | _ => .bad
/-- return (tag, x.f1, ..), x the error at a -/
def tTell (a : Addr) (cls : Value) (d : Option Addr) (C : Addr) (i : Nat) (tag : Str) (fl : List Str) : TS := tRet (tTup (tCons (tC (.str tag)) (fl.foldr (fun f t => tCons (tXf a cls d C f (tVar i)) t) tNil)))
def tabCls (T : Tx) (i : Nat) : FTab → List Cl
  | [] => []
  | (j, tag, fl) :: r => (.ref (T.ca j), fun a cls d => tTell a cls d (T.ca j) i tag fl) :: tabCls T i r
section
variable {X : Cx} {T0 T : Tx} {Wx : WX} {k i iw : Nat} {n w : Str} {tab : FTab} {th : TH} {h1 : ExceptHandler} {hs : List ExceptHandler} {pw pc pe pos : Pos}
/-- the fields of an error, read -/
theorem tell_fields {a dd : Addr} {C : Addr} {σ : L2.St} {H : Hp} {all : List (Str × V)} (hi : σ[i]? = some (some (.ref a))) (hd : H dd = some (.xd all)) : ∀ {fl : List Str} {vs : List V} {Q : List V → Hp → Prop}, fl.length = vs.length → (∀ p ∈ fl.zip vs, all.lookup p.1 = some p.2) → Q vs H →
    (fl.foldr (fun f t => tCons (tXf a (.ref C) (some dd) C f (tVar i)) t) tNil) σ H Q
  | [], [], Q, _, _, q => q
  | f :: fl, v :: vs, Q, l, k, q => ⟨.ref a, hi, rfl, rfl, dd, all, v, rfl, hd, k (f, v) List.mem_cons_self, tell_fields hi hd (by simpa using l) (fun p hp => k p (List.mem_cons_of_mem _ hp)) q⟩
theorem lookup_zip : ∀ {fl : List Str} {vs : List V}, fl.length = vs.length → fl.Nodup → ∀ p ∈ fl.zip vs, (fl.zip vs).lookup p.1 = some p.2
  | [], [], _, _, p, hp => by cases hp
  | f :: fl, v :: vs, l, nd, p, hp => by
    have n := List.nodup_cons.mp nd
    rw [List.zip_cons_cons] at hp ⊢
    rcases List.mem_cons.mp hp with e | e
    · rw [e]
      simp [List.lookup]
    · have ne : (p.1 == f) = false := by
        rw [beq_eq_false_iff_ne]
        intro z
        exact n.1 (by rw [← z]; exact (List.of_mem_zip e).1)
      rw [List.lookup, ne]
      exact lookup_zip (by simpa using l) n.2 p e
theorem lookup_rev {fl : List Str} {vs : List V} (l : fl.length = vs.length) (nd : fl.Nodup) : ∀ p ∈ fl.zip vs.reverse, (fl.reverse.zip vs).lookup p.1 = some p.2 := fun p hp => by
  have lr : fl.length = vs.reverse.length := by rw [List.length_reverse]; exact l
  have e := zip_rev fl vs.reverse lr
  rw [List.reverse_reverse] at e
  have hp2 : p ∈ fl.reverse.zip vs := by
    rw [← e]
    exact List.mem_reverse.mpr hp
  exact lookup_zip (by rw [List.length_reverse]; exact l) (List.pairwise_reverse.mpr (nd.imp fun h => Ne.symm h)) p hp2
theorem tell_read {T : Tx} {H0 H : Hp} {Mo : Addr → Prop} {d x : Addr} {σ : L2.St} {fl : List Str} {fs : List D} {vs : List V} {p : Option Pen} {tag : Str} {D : Ends} {i : Nat} {C : Addr}
    (sub : Sub H0 H) (xp : PenRep T Mo p H) (th : ∀ a, Mo a → H a ≠ none) (hd : H d = some (.xd (fl.reverse.zip vs))) (hl : fl.length = vs.length) (h9 : fl.length ≤ 1000) (nd : fl.Nodup) (r : Rps T (hid Mo H) fs vs) (hi : σ[i]? = some (some (.ref x)))
    (h : ∀ v H', RRep T H0 Mo ⟨.tup (.str tag :: fs.reverse), [], [], 0⟩ p v H' → D.rt v H') : tTell x (.ref C) (some d) C i tag fl D σ H := by
  have lr : fl.length = vs.reverse.length := by rw [List.length_reverse]; exact hl
  refine tell_fields hi hd lr (lookup_rev hl nd) ⟨?_, fun q nq => h _ _ ⟨sub.trans (.new nq), xp.sub (.new nq), fun a ha e => ?_, [], ⟨rfl, q, V.str tag :: vs.reverse, rfl, .inl (.inl ?_), V.str tag, vs.reverse, rfl, rfl, Rps.rev' (Rps.sub (hid_step (fun a o e _ => Sub.new nq a o e) fun a z => .inl (z.elim id fun z => absurd z (by simp))) _ r)⟩, List.nodup_nil, fun a ha => absurd ha (by simp)⟩⟩
  · show vs.reverse.length + 1 ≤ sizeLine
    rw [← lr]
    exact lim_le (Nat.le_trans (Nat.succ_le_succ h9) (by decide))
  · cases e1 : H a with
    | none => exact th a ha e1
    | some o =>
      rw [Sub.new nq a o e1] at e
      cases e
  · rw [hid_out, upd_same]
    intro z
    rcases z with z | z
    · exact th q z nq
    · cases z
theorem ds_tryF (b : BH T0 T X k Wx th) (hk : T0.kl ≤ k) (stk : X.stack = X.env :: X.outer) (frm : X.env.frame = some X.env.locals) (nd : X.N.Nodup) (at_ : X.N[i]? = some n) (loc : X.env.kindOf n = some .local)
    (atw : X.N[iw]? = some w) (vw : Vis X.env.scope w) (ok : ClsOk X n (h1 :: hs) (tabCls T i tab)) (exm : ∀ c ∈ tab.map (·.1), ∀ j ∈ tab.map (·.1), PySem.W.exmOne X.K (.ref (T.ca c)) (.ref (T.ca j)) = some (decide (c = j)))
    (cf : ∀ t ∈ tab, T.cf t.1 = t.2.2.reverse ∧ t.2.2.Nodup ∧ t.2.2.length ≤ 1000) (hd : (w == ("__debug__" : Str)) = false := by decide) (hcd : (w == ("__classdict__" : Str)) = false := by decide)
    (hsw : swapsWith (.Call (.Name w pw) [] [] pc) none pe.line X.env = pure false := by rfl) :
    DS X T Wx (.Try [.Expr (.Call (.Name w pw) [] [] pc) pe] (h1 :: hs) [] [] pos) (sFault iw tab th) := by
  refine (ps_try_asM (tb := fun W => upS T W (sDrop (eAct iw th))) stk frm nd at_ loc b.t (fun W pl xe tk po => ds_one (ds_drop (de_act (T0 := T0) (k := k) ⟨b.tk, b.hK, b.g, b.r, b.c, tk, po, b.lam⟩ hk atw vw hd hcd) hsw)) ok).mono fun D σ H h => ?_
  obtain ⟨H0, Mo, fp, ρ, p, s, h⟩ := h
  refine ⟨H0, Mo, fp, ρ, p, s, ?_⟩
  have li : i < X.N.length := (List.getElem?_eq_some_iff.mp at_).1
  unfold sFault at h
  unfold sDrop eAct
  cases ec : ρ[iw]? with
  | none =>
    rw [ec] at h
    exact h.elim
  | some c =>
  rw [ec] at h
  cases c with
  | none => exact h.elim
  | some c =>
  dsimp only at h ⊢
  cases ed : c.d with
  | clo nn =>
    rw [ed] at h
    dsimp only at h ⊢
    cases et : th nn p with
    | bad =>
      rw [et] at h
      exact h.elim
    | ok y p1 =>
      rw [et] at h
      exact h
    | exc e fs p1 =>
      rw [et] at h
      dsimp only at h
      cases ef : faultD tab e fs with
      | none =>
        rw [ef] at h
        exact h.elim
      | some dd =>
        rw [ef] at h
        intro σ' H' d vs sub xp tho hd hl r
        have h : ∀ v H', RRep T H0 Mo ⟨dd, [], [], 0⟩ p1 v H' → D.rt v H' := h
        have mem : e ∈ tab.map (·.1) := by
          clear exm cf ok h
          induction tab with
          | nil => cases ef
          | cons t r ih =>
            obtain ⟨j, tag, fl⟩ := t
            unfold faultD at ef
            by_cases q : e = j
            · rw [q]
              exact List.mem_cons_self
            · rw [if_neg q] at ef
              exact List.mem_cons_of_mem _ (ih ef)
        have go : ∀ (tb : FTab), (∀ t ∈ tb, t ∈ tab) → faultD tb e fs = some dd → wAsM X.K i X.N.length Wx D (tabCls T i tb) (.ref (T.ca e)) (some d) σ' H' := by
          intro tb
          induction tb with
          | nil =>
            intro _ z
            cases z
          | cons t r' ih =>
            intro sb z
            obtain ⟨j, tag, fl⟩ := t
            have tin := sb _ List.mem_cons_self
            refine ⟨decide (e = j), exm e mem j (List.mem_map_of_mem (f := fun x : Nat × Str × List Str => x.1) tin), fun q len x nx => ?_, fun q => ih (fun t ht => sb t (List.mem_cons_of_mem _ ht)) ?_⟩
            · have q : e = j := of_decide_eq_true q
              subst q
              unfold faultD at z
              rw [if_pos rfl] at z
              cases z
              obtain ⟨c1, c2, c3⟩ := cf _ tin
              dsimp only at c1 c2 c3
              rw [c1] at hd hl
              rw [List.length_reverse] at hl
              exact tell_read (D := endsAs i D) sub xp tho hd hl c3 c2 r (List.getElem?_set_self (by rw [len]; exact li)) h
            · have q : ¬ e = j := of_decide_eq_false q
              unfold faultD at z
              rw [if_neg q] at z
              exact z
        exact go tab (fun _ h => h) ef
  | _ =>
    rw [ed] at h
    exact h.elim
end
end DL
set_option Elab.async false
set_option linter.all false
set_option maxRecDepth 100000
set_option maxHeartbeats 2000000
/-! # The data layer, part 20: repr; names of the module; more calls -/
namespace DL
open PySem PySem.Spec PyProof.Rows L2

def biRepr : List Z → Option Z
  | [x] => if (dOk x.d 60 && (toPy x.d).showable && decide ((toPy x.d).shown.length ≤ LIM)) = true then some (zS (.str (toPy x.d).shown)) else none
  | _ => none
theorem call_repr {X : Cx} (hg : X.A.guards = some []) (hu : X.A.units + 65 < cLine) :
    CallR X (.builtin "repr") fun xs H Q => ∃ v d, xs = [v] ∧ Dp X.K H v d ∧ d.canLay0 = true ∧ d.depth ≤ 60 ∧ d.showable = true ∧ d.shown.length ≤ LIM ∧ Q (.str d.shown) H := by
  intro pins s σ H xs us Q I r h
  obtain ⟨v, d, rfl, dp, cl, dep, sh, len, q⟩ := h
  obtain ⟨u, rfl, ru⟩ := vals1 r
  obtain ⟨as, rd⟩ := Dp.reads I d v u dp ru
  have nd := PyData.hasDict_of_canLay d cl
  have fit := lim_le len
  have fin : ∀ h' tk t2, (∀ b o, s.heap.get? b = some o → h'.get? b = some o) → EP X pins σ Q (.str d.shown t2) { s with heap := h', toks := tk } := fun h' tk t2 k => ⟨.str d.shown, H, I.kept k, ⟨t2, rfl⟩, q⟩
  have hsm : d.hasDict = true → sysModules ∉ as := fun z => by
    rw [nd] at z
    cases z
  cases rd with
  | none => exact PySem.P.repr_of_none (fin s.heap _ _ fun _ _ e => e)
  | bool b => exact PySem.P.repr_of_bool (fin s.heap _ _ fun _ _ e => e)
  | int i t => exact PySem.P.repr_of_int (of_decide_eq_true sh) (fin s.heap _ _ fun _ _ e => e)
  | str x t => exact PySem.P.repr_of_str (fin s.heap _ _ fun _ _ e => e) fit
  | list h1 h2 h3 h4 => exact repr_of_reads' (.list h1 h2 h3 h4) sh hsm hg (by omega) (fun _ _ e => e) (fun h' u tk hk => fin h' tk u hk) fit
  | tuple h1 h2 h3 h4 => exact repr_of_reads' (.tuple h1 h2 h3 h4) sh hsm hg (by omega) (fun _ _ e => e) (fun h' u tk hk => fin h' tk u hk) fit
  | dict h1 h2 h3 h4 h5 => cases nd
theorem bi_repr {X : Cx} {T : Tx} (hK : T.K = X.K) (hg : X.A.guards = some []) (hu : X.A.units + 65 < cLine) : BiD X T (.builtin "repr") biRepr := by
  refine ⟨_, call_repr hg hu, fun xs H Q h => ?_⟩
  obtain ⟨Mo, fp, zs, z, c, zr, e, k⟩ := h
  unfold biRepr at e
  split at e
  · rename_i x
    split at e
    · rename_i hh
      cases e
      obtain ⟨Hs, v, rfl, zx⟩ := zr.one
      simp only [Bool.and_eq_true, decide_eq_true_eq] at hh
      obtain ⟨⟨h1, h2⟩, h3⟩ := hh
      obtain ⟨l1, l2⟩ := dOk_lay _ _ h1
      exact ⟨v, toPy x.d, rfl, by rw [← hK]; exact dp_of (.refl H) _ _ h1 zx.full, l1, l2, h2, h3, k _ _ (.refl H) (.scalar fun _ => rfl)⟩
    · cases e
  · cases e
/-! ### names of the module -/
section
variable {X : Cx} {T : Tx} {Wx : WX} {x : Str} {pos : Pos}
theorem de_globI {n : Int} {t : Tok} (hm : X.mg x = some (.int n t)) (hg : Gl X x) (hd : (x == ("__debug__" : Str)) = false := by decide) : DE X T Wx (.Name x pos) (eC (.int n)) := de_val (pe_glob (v := .int n) hg hm ⟨t, rfl⟩ hd) fun _ => rfl
theorem de_globF {n : Nat} (hm : X.mg x = some (.ref (T.fa n))) (hg : Gl X x) (hd : (x == ("__debug__" : Str)) = false := by decide) : DE X T Wx (.Name x pos) (eC (.fn n)) := de_val (pe_glob (v := .ref (T.fa n)) hg hm rfl hd) fun _ => rfl
end
end DL
set_option Elab.async false
set_option linter.all false
set_option maxRecDepth 100000
set_option maxHeartbeats 2000000
/-! # The data layer, part 21: chains, names of types -/
namespace DL
open PySem PySem.Spec PyProof.Rows L2
section
variable {X : Cx} {T : Tx} {Wx : WX} {a b c : Expr} {f g k : M Z} {pos : Pos} {x : Str} {id : String}
theorem de_chain {o o' : CmpOp} {op op' : Z → Z → Option Z} (c1 : CmpD X T o op) (c2 : CmpD X T o' op') (ha : DE X T Wx a f) (hb : DE X T Wx b g) (hc : DE X T Wx c k) (hm : lastMarks [o, o'] [b, c] = false := by with_unfolding_all rfl) : DE X T Wx (.Compare a [o, o'] [b, c] pos) (eChain op op' f g k) := by
  obtain ⟨r, h1, h2, h3⟩ := c1
  obtain ⟨r', h1', h2', _⟩ := c2
  exact (pe_chain h1 h1' ha hb hc hm).mono fun _ _ _ h => up_chain h2 h2' h3 h
theorem eChain_bl {op op' : Z → Z → Option Z} (h' : ∀ x y z, op' x y = some z → ∃ k, z.d = .bl k) {ρ : Env} {p p2 : Option Pen} {z : Z} (e : eChain op op' f g k ρ p = .ok z p2) : ∃ t, z.d = .bl t := by
  unfold eChain at e
  obtain ⟨x, p3, _, e⟩ := R.bind_ok e
  obtain ⟨y, p4, _, e⟩ := R.bind_ok e
  split at e
  · split at e
    · obtain ⟨w, p5, _, e⟩ := R.bind_ok e
      split at e
      · rename_i u eu
        cases e
        exact h' _ _ _ eu
      · cases e
    · cases e
      exact ⟨false, rfl⟩
    · cases e
  · cases e
theorem dt_chain {o o' : CmpOp} {op op' : Z → Z → Option Z} (c1 : CmpD X T o op) (c2 : CmpD X T o' op') (ha : DE X T Wx a f) (hb : DE X T Wx b g) (hc : DE X T Wx c k) (hm : lastMarks [o, o'] [b, c] = false := by with_unfolding_all rfl) : DT X T Wx (.Compare a [o, o'] [b, c] pos) (eChain op op' f g k) := by
  obtain ⟨r, h1, h2, h3⟩ := c1
  obtain ⟨r', h1', h2', h3'⟩ := c2
  refine (pt_chain h1 h1' ha hb hc hm).mono fun σ H Q h => up_chain h2 h2' h3 ?_
  obtain ⟨H0, Mo, fp, ρ, p, s, h⟩ := h
  refine ⟨H0, Mo, fp, ρ, p, s, h.imp fun z p2 v H' e g1 x1 zr h => ?_⟩
  obtain ⟨t, et⟩ := eChain_bl h3' e
  obtain ⟨t', h1, h2⟩ := h
  rw [et] at h1
  have h1 : some t = some t' := h1
  cases h1
  exact ⟨t, zr.bl et, h2⟩
/-- the name of a built-in type -/
theorem de_tyn (hg : Gl X x) (hm : X.mg x = none) (hv : bootBuiltins x = some (.type id)) (hn : x ≠ "__name__" := by decide) (hdb : (x == ("__debug__" : Str)) = false := by decide) : DE X T Wx (.Name x pos) (eC (.ty id)) :=
  de_val (v := .ty id) ⟨fun pins s σ H Q I h => ld_blt I hg hm hv ⟨.ty id, H, I, rfl, h⟩ hn hdb⟩ fun _ => rfl
theorem pe_tyn (hg : Gl X x) (hm : X.mg x = none) (hv : bootBuiltins x = some (.type id)) (hn : x ≠ "__name__" := by decide) (hdb : (x == ("__debug__" : Str)) = false := by decide) : PE X (.Name x pos) (tC (.ty id)) :=
  ⟨fun pins s σ H Q I h => ld_blt I hg hm hv ⟨.ty id, H, I, rfl, h⟩ hn hdb⟩
theorem nob {o : CmpOp} {e : Expr} (h : o ≠ .In := by decide) (h2 : o ≠ .NotIn := by decide) : behindInMarks o e = false := nobehind e h h2
end
end DL
set_option Elab.async false
set_option linter.all false
set_option maxRecDepth 100000
set_option maxHeartbeats 2000000
/-! # The data layer, part 22: scopes of blocks, unpacking -/
namespace DL
open PySem PySem.Spec PyProof.Rows L2
theorem blkD {N N0 : List Str} {s s0 scope : Scope} {own : List (Str × Nat)} (h1 : N = N0) (h2 : s = s0) (h : BlkOk N0 s0 scope own) : BlkOk N s scope own := by
  subst h1; subst h2; exact h
def sUnp (tm : TM) (f : M Z) : SM := fun ρ p => (f ρ p).thenO fun z p1 => match tm z.d (frz z.lo ρ) with | some ρ2 => .nx ρ2 p1 | none => .bad
theorem rp_one {T : Tx} {Mo : Addr → Prop} {fp : Nat → List Addr} {Hs H : Hp} {z : Z} {v : V} {b : List Nat} (zr : ZRep T Mo fp Hs z v H) (k : ∀ i ∈ z.lo, i ∈ b) : Rp T (hid (Hd Mo (frzFp b fp) []) H) z.d v :=
  Rp.sub (hid_mono fun a q => .inl (frz_hd q)) z.d (zr.all (b := b) k)
section
variable {X : Cx} {T : Tx} {Wx : WX} {pos : Pos} {tg e : Expr} {f : M Z} {tm : TM} {js : List Nat}
theorem ds_unp (htg : DG X T tg js tm) (he : DE X T Wx e f) (hs : swapsWithSole [tg] e pos.line X.env = pure false := by rfl) (hw : swappedStores [tg] e X.env = pure none := by rfl) (h1 : (assignEach [tg] X.env).map (·.2) = [assign tg X.env] := by rfl) :
    DS X T Wx (.Assign [tg] e pos) (sUnp tm f) :=
  (ps_asg he htg hs hw h1).mono fun D σ H h => by
    obtain ⟨H0, Mo, fp, ρ, p, s, h⟩ := h
    refine ⟨H0, Mo, fp, ρ, p, s, (SPost.bind (Hs := H) (H := H) h).imp fun z p1 v H1 _ g x zr h => ?_⟩
    have s1 := (s.grows g x).frz z.lo
    have rp : Rp T (hid (Hd Mo (frzFp z.lo fp) []) H1) z.d v := rp_one zr fun _ h => h
    split at h
    · rename_i ρ2 e2
      exact ⟨H0, Mo, frzFp z.lo fp, frz z.lo ρ, p1, z.d, ρ2, s1, rp, e2, fun fp2 σ' s2 _ _ _ => h _ _ _ s2⟩
    · exact h.elim
end
end DL
set_option Elab.async false
set_option linter.all false
set_option maxRecDepth 100000
set_option maxHeartbeats 4000000
/-! # The data layer, part 23: a set made of a list of hin, and sorted -/
namespace DL
open PySem PySem.Spec PyProof.Rows L2
abbrev nset (w : World) : Obj := { cls := .type "set", dict := none, data := .set #[] 0 (.fresh 0 0 (!w.params.followText "set-order")) }
abbrev withSet (w : World) (s : Shared) : Shared := { s with heap := s.heap.push (nset w) }
/-- what the set's update leaves -/
def SetMade (w : World) (s : Shared) (ns : List Int) (t : Shared) : Prop := ∃ h' tk c, t = { s with heap := h', toks := tk } ∧ SetR w h' s.heap.objs.size (fun j => decide (j ∈ ns)) c ∧ c ≤ ns.length ∧ ∀ b o, s.heap.get? b = some o → h'.get? b = some o
section
variable {P : Program} {w : World} {A : Around} {E : Value → Shared → Prop} {s : Shared}
theorem set_list_made {l : Addr} {xs : Array Value} (ns : List Int) {Q : Value → Shared → Prop} (quiet : A.handled = none) (isl : s.heap.IsList l xs) (hin : IntsAre xs.toList ns) (room : ns.length + 1 < scanBound)
    (fin : ∀ t, SetMade w s ns t → Q (.ref s.heap.objs.size) t) : wpAny (model P w) A (call (.type "set") [.ref l]) Q E s := by
  have len : xs.size = ns.length := by
    rw [← Array.length_toList]
    exact IntsAre.length hin
  obtain ⟨cm, tm, mro⟩ := F.called_set.mro
  have mk := F.called_set.made
  have sb := F.called_set.sub
  refine wpAny_call (codeAny_of_tree ?_)
  show wpAny _ _ (callAny (.type "set") _) _ _ _
  refine wpAny_pure ⟨Code.quiet_builtin _ (by decide +kernel), codeAny_builtin F.entry_type_call ?_⟩
  rw [Around.under_plain (weight_type_call_type "set" [.ref l] []) rfl]
  have nt := F.called_set.notType
  have cc := F.called_set.canCreate
  have ct := F.typeCall_set_1 (.ref l)
  repeat (any_goals (first | assumption | wp_step))
  refine codeAny_mono (code_set_led1 (.ref l) (E := E) (Q₁ := fun ob t => ob = .ref s.heap.objs.size ∧ t = withSet w s) ⟨rfl, rfl⟩) fun r t hr => ?_
  cases r with
  | error e => exact hr
  | ok f =>
    cases f with
    | ret ob =>
      obtain ⟨rfl, rfl⟩ := hr
      have there : (s.heap.push (nset w)).get? s.heap.objs.size = some (nset w) := Heap.get?_push_size _ rfl
      have ty : Shared.TypeIs (withSet w s) (.ref s.heap.objs.size) "set" := ⟨_, there, rfl⟩
      have lk := F.called_set.init.lookup
      have bd := F.called_set.init.bind (.ref s.heap.objs.size)
      repeat (any_goals (first | assumption | wp_step))
      refine codeAny_mono (codeAny_call_builtin (R := wants (fun r t => r = .none ∧ SetMade w s ns t) E) F.called_set.init.plain F.entry_set_init (check_set_init_1 ty ?_)) fun r t hr => ?_
      · obtain ⟨⟨oc, od, oda, os⟩, hol, e1, k, e2⟩ := isl
        simp only at e1 e2
        subst e1 e2
        have atl : (s.heap.push (nset w)).get? l = some { cls := .type "list", dict := od, data := .seq xs k, slots := os } := Heap.get?_push_of_some _ hol
        have u1 := F.sub_list_set
        have u2 := F.sub_list_frozenset
        have u3 : (Value.type "list" == Value.type "dict") = false := by decide
        have isl1 : (s.heap.push (nset w)).IsList l xs := ⟨_, atl, rfl, k, rfl⟩
        unfold Builtin.«set.__init__» noKeywords Builtin.Frozenset.updateFrom
        generalize hIt : pyIter = It0
        wp_walk
        subst hIt
        refine wpAny_pyIter_list isl1 (wpAny_bind (wpAny_runValue ?_))
        have lt : l < s.heap.objs.size := Heap.lt_size hol
        have h3 : A.in1.in1.in1.handled = none := by simp [quiet]
        have sz : (s.heap.push (nset w)).objs.size = s.heap.objs.size + 1 := Heap.size_push ..
        have ne : l ≠ (s.heap.push (nset w)).objs.size := sz ▸ Nat.ne_of_lt (Nat.lt_succ_of_lt lt)
        have nin : s.heap.objs.size ∉ [(s.heap.push (nset w)).objs.size, l] := by
          rw [sz]
          simp only [List.mem_cons, List.not_mem_nil, or_false, not_or]
          exact ⟨Nat.ne_of_lt (Nat.lt_succ_self _), fun e => Nat.lt_irrefl _ (e ▸ lt)⟩
        have each : ∀ (i : Nat) (v : Value), xs[i]? = some v → ∃ k t, ns[i]? = some k ∧ v = .int k t := fun i v hv => by
          have hi : i < ns.length := len ▸ (Array.getElem?_eq_some_iff.mp hv).1
          obtain ⟨t, e⟩ := PyProof.Rows.IntsAre.int_at hin i v (by rw [Array.getElem?_toList]; exact hv)
          exact ⟨ns[i], t, List.getElem?_eq_getElem hi, by rw [e, List.getD_eq_getElem?_getD, List.getElem?_eq_getElem hi] <;> rfl⟩
        refine set_update_ints ((Walks.list h3 _ l ne xs).toS) s.heap.objs.size nin ns len room each (xs.size - 0) 0 _ (by omega) (Nat.zero_le _) ⟨⟨_, Heap.get?_push_size _ rfl, rfl, rfl⟩, (isl1.push _)⟩ ?made0 ?end0
        case made0 => exact ⟨0, Nat.le_refl 0, setR_new_at (Heap.get?_push_of_some _ there)⟩
        case end0 =>
          intro t c mv hc' hS'
          obtain ⟨h', g2, d', tk', os'⟩ := t
          have eg : g2 = s.gens := mv.gens
          have ed : d' = s.drawn := mv.drawn
          have eo : os' = s.os := mv.os
          subst eg ed eo
          show wpAny _ _ _ _ _ _
          refine wpAny_pure ?_
          show wpAny _ _ (ret Value.none) _ _ _
          refine wpAny_pure ⟨rfl, h', tk', c, rfl, hS', by omega, fun b o e => ?_⟩
          have b0 : b < s.heap.objs.size := Heap.lt_size e
          refine mv.heap b o ?_ (Heap.get?_push_of_some _ (Heap.get?_push_of_some _ e))
          simp only [List.mem_cons, List.not_mem_nil, or_false, not_or]
          exact ⟨Nat.ne_of_lt b0, sz ▸ Nat.ne_of_lt (Nat.lt_succ_of_lt b0)⟩
      · cases r with
        | error e => exact hr
        | ok f =>
          cases f with
          | ret r =>
            obtain ⟨rfl, h', tk, c, rfl, k1, k2, k3⟩ := hr
            repeat (any_goals (first | assumption | wp_step))
            exact fin _ ⟨h', tk, c, rfl, k1, k2, k3⟩
          | _ => exact hr.elim
    | _ => exact hr.elim
end
end DL
set_option Elab.async false
set_option linter.all false
set_option maxRecDepth 100000
set_option maxHeartbeats 4000000
/-! # The data layer, part 24: sorted(xs), sorted(set(xs)), len(set(xs)) of ints -/
namespace DL
open PySem PySem.Spec PyProof.Rows L2
/-! ### plain: sorting ints -/
def insS (k : Int) : List Int → List Int
  | [] => [k]
  | x :: l => if k < x then k :: x :: l else if k = x then x :: l else x :: insS k l
def sortS (l : List Int) : List Int := l.foldr insS []
def insI (k : Int) : List Int → List Int
  | [] => [k]
  | x :: l => if k ≤ x then k :: x :: l else x :: insI k l
def sortI (l : List Int) : List Int := l.foldr insI []
theorem mem_insS {k j : Int} : ∀ {l : List Int}, j ∈ insS k l ↔ j = k ∨ j ∈ l
  | [] => by simp [insS]
  | x :: l => by
    unfold insS
    have ih := mem_insS (k := k) (j := j) (l := l)
    split
    · simp
    · split
      · rename_i h
        subst h
        simp
      · rw [List.mem_cons, ih, List.mem_cons]
        exact or_left_comm
theorem mem_sortS {j : Int} : ∀ {l : List Int}, j ∈ sortS l ↔ j ∈ l
  | [] => Iff.rfl
  | x :: l => by
    show j ∈ insS x (sortS l) ↔ _
    rw [mem_insS, mem_sortS (l := l), List.mem_cons]
theorem insS_pw {k : Int} : ∀ {l : List Int}, l.Pairwise (· < ·) → (insS k l).Pairwise (· < ·)
  | [], _ => List.pairwise_singleton ..
  | x :: l, h => by
    rw [List.pairwise_cons] at h
    unfold insS
    split
    · rename_i q
      exact List.pairwise_cons.mpr ⟨fun y hy => by
        rcases List.mem_cons.mp hy with e | e
        · exact e ▸ q
        · exact Int.lt_trans q (h.1 y e), List.pairwise_cons.mpr h⟩
    · split
      · exact List.pairwise_cons.mpr h
      · exact List.pairwise_cons.mpr ⟨fun y hy => by
          rcases mem_insS.mp hy with e | e
          · omega
          · exact h.1 y e, insS_pw h.2⟩
theorem sortS_pw : ∀ {l : List Int}, (sortS l).Pairwise (· < ·)
  | [] => .nil
  | x :: l => insS_pw (sortS_pw (l := l))
theorem insI_perm {k : Int} : ∀ {l : List Int}, (insI k l).Perm (k :: l)
  | [] => .refl _
  | x :: l => by
    unfold insI
    split
    · exact .refl _
    · exact (insI_perm.cons x).trans (.swap ..)
theorem sortI_perm : ∀ {l : List Int}, (sortI l).Perm l
  | [] => .refl _
  | x :: l => insI_perm.trans (sortI_perm.cons x)
theorem insI_pw {k : Int} : ∀ {l : List Int}, l.Pairwise (· ≤ ·) → (insI k l).Pairwise (· ≤ ·)
  | [], _ => List.pairwise_singleton ..
  | x :: l, h => by
    rw [List.pairwise_cons] at h
    unfold insI
    split
    · rename_i q
      exact List.pairwise_cons.mpr ⟨fun y hy => by
        rcases List.mem_cons.mp hy with e | e
        · exact e ▸ q
        · exact Int.le_trans q (h.1 y e), List.pairwise_cons.mpr h⟩
    · exact List.pairwise_cons.mpr ⟨fun y hy => by
        rcases List.mem_cons.mp (insI_perm.mem_iff.mp hy) with e | e
        · omega
        · exact h.1 y e, insI_pw h.2⟩
theorem sortI_pw : ∀ {l : List Int}, (sortI l).Pairwise (· ≤ ·)
  | [] => .nil
  | x :: l => insI_pw (sortI_pw (l := l))
theorem sortI_eq {l m : List Int} (p : m.Perm l) (q : m.Pairwise (· ≤ ·)) : m = sortI l :=
  List.Perm.eq_of_pairwise (le := (· ≤ ·)) (fun a b _ _ => Int.le_antisymm) q sortI_pw (p.trans sortI_perm.symm)
theorem lt_uniq {l m : List Int} (p : l.Pairwise (· < ·)) (q : m.Pairwise (· < ·)) (h : ∀ k, k ∈ l ↔ k ∈ m) : l = m := by
  refine List.Perm.eq_of_pairwise (le := (· < ·)) (fun a b _ _ h1 h2 => absurd (Int.lt_trans h1 h2) (Int.lt_irrefl _)) p q ?_
  exact (List.perm_ext_iff_of_nodup (p.imp fun h => Int.ne_of_lt h) (q.imp fun h => Int.ne_of_lt h)).mpr h
/-! ### the calls -/
theorem rps_ints {T : Tx} {F : Hp} : ∀ (ns : List Int), Rps T F (ns.map D.int) (ns.map V.int)
  | [] => rfl
  | n :: ns => ⟨_, _, rfl, rfl, rps_ints ns⟩
theorem ZRep.subHs {T : Tx} {Mo : Addr → Prop} {fp : Nat → List Addr} {H H1 H' : Hp} {z : Z} {v : V} (x : ZRep T Mo fp H1 z v H') (s : Sub H H1) : ZRep T Mo fp H z v H' :=
  ⟨x.val, fun n => by
    obtain ⟨as, h1, h2, h3⟩ := x.own n
    refine ⟨as, h1, h2, fun a ha => ?_⟩
    cases e : H a with
    | none => rfl
    | some o => exact absurd (h3 a ha) (by rw [s a _ e]; exact Option.some_ne_none _)⟩
def seqD : D → Option (List D)
  | .lst l => some l
  | .tup l => some l
  | _ => none
def biSorted : List Z → Option Z
  | [x] => match x.d with
    | .lst l => match intsOf l with | some ns => some ⟨.lst ((sortI ns).map .int), [], [], 1⟩ | none => none
    | _ => none
  | _ => none
def biSortSet : List Z → Option Z
  | [x] => match seqD x.d with
    | some l => match intsOf l with | some ns => if decide (ns.length < 64) = true then some ⟨.lst ((sortS ns).map .int), [], [], 1⟩ else none | none => none
    | none => none
  | _ => none
/-- set(xs), the ints of a list or a tuple -/
def rSetI (K : PySem.W.Frag) (w : World) : List V → Hp → VK → Prop := fun vs H Q => ∃ (l : Addr) (ns : List Int), vs = [.ref l] ∧ (SqL K H l (ns.map V.int) ∨ SqT K H l (ns.map V.int)) ∧ ns.length < 64 ∧ ∀ a c, H a = none → c ≤ ns.length → Q (.ref a) (upd H a (SetO w a (fun j => decide (j ∈ ns)) c))
section
variable {X : Cx} {T : Tx} {Wx : WX}
theorem cr_setI (hc : X.calm = true) : CallR X (.type "set") (rSetI X.K X.w) := by
  intro pins s σ H vs us Q I r h
  obtain ⟨l, ns, rfl, hq, hl, q⟩ := h
  rw [Vals.ref1 r]
  have fin : ∀ t, SetMade X.w s ns t → EP X pins σ Q (.ref s.heap.objs.size) t := fun t ⟨h', tk, c, e, k1, k2, k3⟩ => by
    subst e
    exact ⟨.ref s.heap.objs.size, upd H s.heap.objs.size (SetO X.w s.heap.objs.size (fun j => decide (j ∈ ns)) c), I.laid (t' := tk) k3 (Nat.le_refl _) (setO_new k1), rfl, q _ _ (I.hok.fresh (Nat.le_refl _)) k2⟩
  rcases hq with hq | hq
  · obtain ⟨its, rv, pl, hz⟩ := I.list hq
    exact set_list_made ns (I.ok.hd hc) pl.isList (ints_of_vals (by simpa using rv)) (by unfold scanBound; omega) fin
  · obtain ⟨its, rv, pl, hz⟩ := I.tuple hq
    exact call_set_tupI ns (I.ok.hd hc) pl (ints_of_vals (by simpa using rv)) (by unfold scanBound; omega) fun h' tk c k1 k2 k3 => fin _ ⟨h', tk, c, rfl, k1, k2, k3⟩
theorem seq_sq (hK : T.K = X.K) {Mo : Addr → Prop} {fp : Nat → List Addr} {Hs H : Hp} {z : Z} {v : V} {l : List D} (zr : ZRep T Mo fp Hs z v H) (e : seqD z.d = some l) : ∃ a vs, v = .ref a ∧ (SqL X.K H a vs ∨ SqT X.K H a vs) ∧ Rps T (hid (Hd Mo fp z.c) H) l vs := by
  unfold seqD at e
  split at e
  · rename_i l e1
    cases e
    obtain ⟨a, vs, rfl, h1, h2⟩ := zr.lst e1
    exact ⟨a, vs, rfl, .inl (.inl (.inl h1)), h2⟩
  · rename_i l e1
    cases e
    obtain ⟨a, vs, rfl, h1, h2⟩ := zr.tup e1
    exact ⟨a, vs, rfl, .inr (hK ▸ hid_sub.sqt h1), h2⟩
  · cases e
variable {e : Expr} {g : M (List Z)} {p p2 q pos : Pos}
theorem de_sortSet (hc : X.calm = true) (hK : T.K = X.K) (hg : Gl X "sorted") (hm : X.mg "sorted" = none) (hg2 : Gl X "set") (hm2 : X.mg "set" = none) (ha : DA X T Wx [e] g) (na : starEach [e] X.env = (false, eval e X.env) :: starEach [] X.env := by rfl) :
    DE X T Wx (.Call (.Name "sorted" p) [.Call (.Name "set" p2) [e] [] q] [] pos) (eCB biSortSet g) := by
  refine (pe_callB (cr_sortedSet hc) hg hm (by decide +kernel) (pa_cons (pe_callTy (cr_setI hc) hg2 hm2 (by decide +kernel) ha (he := na)) pa_nil rfl)).mono fun σ H Q h => ?_
  refine up_cb (r := fun xs H Q => rSetI X.K X.w xs H fun v H1 => rSortedSet X.w [v] H1 Q) (fun xs H Q h => ?_) h
  obtain ⟨Mo, fp, zs, z, c, zr, e, k⟩ := h
  unfold biSortSet at e
  split at e
  · obtain ⟨Hs, v, rfl, zx⟩ := zr.one
    split at e
    · rename_i l e1
      split at e
      · rename_i ns e2
        split at e
        · rename_i hl
          cases e
          obtain ⟨a, vs, rfl, h1, h2⟩ := seq_sq hK zx e1
          rw [intsOf_eq e2] at h2
          rw [h2.ints] at h1
          have hl : ns.length < 64 := of_decide_eq_true hl
          refine ⟨a, ns, rfl, h1, hl, fun b n hb hn => ⟨b, _, n, rfl, if_pos rfl, by omega, fun ms r k1 k2 k3 hr => ?_⟩⟩
          have em : ms = sortS ns := lt_uniq k1 sortS_pw fun j => (k2 j).trans (decide_eq_true_iff.trans mem_sortS.symm)
          subst em
          exact k _ _ ((Sub.new hb).trans (.new hr)) (((c.sub (.new hb)).newLst hr (rps_ints _)).subHs (.new hb))
        · cases e
      · cases e
    · cases e
  · cases e
theorem bi_sorted (hK : T.K = X.K) : BiD X T (.builtin "sorted") biSorted := by
  refine ⟨_, cr_sortedI, fun xs H Q h => ?_⟩
  obtain ⟨Mo, fp, zs, z, c, zr, e, k⟩ := h
  unfold biSorted at e
  split at e
  · obtain ⟨Hs, v, rfl, zx⟩ := zr.one
    split at e
    · rename_i l e1
      split at e
      · rename_i ns e2
        cases e
        rw [intsOf_eq e2] at e1
        obtain ⟨a, vs, rfl, h1, h2⟩ := zx.lst e1
        rw [h2.ints] at h1
        refine ⟨a, ns, rfl, .inl (.inl h1), fun ms r k1 k2 hr => ?_⟩
        have em : ms = sortI ns := sortI_eq k1 k2
        subst em
        exact k _ _ (.new hr) (c.newLst hr (rps_ints _))
      · cases e
    · cases e
  · cases e
end
end DL
set_option Elab.async false
set_option linter.all false
set_option maxRecDepth 100000
set_option maxHeartbeats 2000000
/-! # The data layer, part 25: a def without fuel -/
namespace DL
open PySem PySem.Spec PyProof.Rows L2
section
variable {P : Program} {w : World} {K : PySem.W.Frag} {mg : Str → Option Value} {base : Heap}
theorem fnBad {T0 : Tx} {x qual : Str} {st : Stmt} {f : Addr} {fd : FuncData} {N ps : List Str} {k : Nat} (F : Fun K x qual st f fd) (S : FnScope N ps (defScope st)) (bd : Binds K fd ps []) : FnG P w K mg base (k + 1) f (spD P w K mg base T0 fun _ _ _ => .bad) :=
  fnG_mk F S bd (fun vs H Q E h => by
    obtain ⟨T, Mo, ds, p, th, _, _, _, _, _, _, h⟩ := h
    exact h.elim) fun cdv A out s H vs Q E _ _ h => by
    obtain ⟨T, Mo, ds, p, th, _, _, _, _, _, _, h⟩ := h
    exact h.elim
end
end DL
set_option Elab.async false
set_option linter.all false
set_option maxRecDepth 100000
set_option maxHeartbeats 4000000
/-! # The data layer, part 26: the law's call, with a table of code objects -/
namespace DL
open PySem PySem.Spec PyProof.Rows L2
theorem law_runT {P : Program} {w : World} {K : PySem.W.Frag} {mg mb : Str → Option Value} {k n : Nat} {fa a c t : Addr} {q : Str} {sh : Shared} {vs : List Value} {ns : List Int}
    (inK : K.In sh.heap) (gNs : sh.heap.Ns mainGlobals mg) (bNs : sh.heap.Ns builtinsNs mb) (boot : ∀ y : Str, y ≠ "__name__" → mb y = bootBuiltins y) (nolim : sh.heap.NoLimit) (gens : sh.gens = #[])
    (tab : sh.heap.get? t = some { cls := .none, data := .fields #[] }) (tK : K.lookup t = none) (cd : PySem.W.codeHdIn K c t = true)
    (hbm : ∃ (bm : Addr) (ob : Obj), mg "__builtins__" = some (.ref bm) ∧ bm ≠ builtinsNs ∧ sh.heap.get? bm = some ob ∧ ob.cls = .type "module" ∧ ob.dict = some builtinsNs ∧ ob.data = .plain)
    (obj : sh.heap.get? a = some { cls := .type "list", data := .seq vs.toArray }) (iar : IntsAre vs ns) (fit : ns.length ≤ sizeLine) (short : ns.length ≤ n) (room : Room k callerA)
    (F : ∀ base : Heap, K.In base → base.Ns mainGlobals mg → LamX.TabB base mg c t → FnG P w K mg base k fa (spLaw K [(t, q)] n)) :
    codeAny (model P w) callerA (.call (.ref fa) ⟨[.ref a], []⟩) (fun r s' => r = .ok (.ret (.bool true)) ∧ OldK sh.heap s'.heap ∧ s'.os = sh.os ∧ AllBare s'.gens) sh := by
  have len := iar.length
  have nat : a ≠ t := fun e => by
    rw [e, tab] at obj
    have z : Data.fields #[] = Data.seq vs.toArray _ := congrArg Obj.data (Option.some.inj obj)
    cases z
  have gen : ∀ H : Hp, H t = some (.tbl #[]) → (∀ b, b ≠ t → H b = none ∨ ∃ o xs, H b = some (.frz o (.lst xs))) → SqL K H a (ns.map V.int) → HOk P w H sh.heap → (∀ b, H b ≠ none → b = a ∨ b = t) → (H a ≠ none → K.lookup a = none) →
      codeAny (model P w) callerA (.call (.ref fa) ⟨[.ref a], []⟩) (fun r s' => r = .ok (.ret (.bool true)) ∧ OldK sh.heap s'.heap ∧ s'.os = sh.os ∧ AllBare s'.gens) sh := by
    intro H atT only seq hok just apart
    have off : ∀ {b : Addr} {o : Obj}, sh.heap.get? b = some o → (∀ vs m, o ≠ { cls := .type "list", data := .seq vs m }) ∧ o ≠ { cls := .none, data := .fields #[] } ∨ K.lookup b ≠ none → H b = none := fun {b o} e h => by
      cases z : H b with
      | none => rfl
      | some u =>
        rcases just b (by rw [z]; exact fun y => nomatch y) with ba | ba
        · subst ba
          rw [obj] at e
          cases e
          rcases h with h | h
          · exact absurd rfl (h.1 _ _)
          · exact absurd (apart (by rw [z]; exact fun y => nomatch y)) h
        · subst ba
          rw [tab] at e
          cases e
          rcases h with h | h
          · exact absurd rfl h.2
          · exact absurd tK h
    have offD : ∀ {b : Addr} {o : Obj}, sh.heap.get? b = some o → (∀ v m, o.data ≠ .seq v m) → o.data ≠ .fields #[] → H b = none := fun e h1 h2 => off e (.inl ⟨fun v m z => h1 v m (congrArg Obj.data z), fun z => h2 (congrArg Obj.data z)⟩)
    have nsK : ∀ {b : Addr} {m : Str → Option Value}, sh.heap.Ns b m → (hidT sh.heap H).Ns b m := fun {b m} h => by
      obtain ⟨o, es, ep, e, d, r⟩ := h
      exact ⟨o, es, ep, hidT_get e (offD e (fun v m z => by rw [d] at z; cases z) fun z => by rw [d] at z; cases z), d, r⟩
    have kin : K.In (hidT sh.heap H) := fun b o e => hidT_get (inK b o e) (off (inK b o e) (.inr (by rw [e]; exact fun z => nomatch z)))
    have md : Mod K mg (hidT sh.heap H) := ⟨kin, nsK gNs, ⟨mb, nsK bNs, boot⟩, by
      obtain ⟨mc, h1, h2⟩ := nolim
      exact ⟨mc, nsK h1, h2⟩⟩
    have notG : ∀ {b : Addr} {ob : Obj}, sh.heap.get? b = some ob → (∀ es ep, ob.data ≠ .dict es ep) → b ≠ mainGlobals := fun {b ob} e h z => by
      obtain ⟨o, es, ep, e2, hd, _⟩ := gNs
      rw [z, e2] at e
      cases e
      exact h _ _ hd
    have TB : LamX.TabB (hidT sh.heap H) mg c t := by
      refine NdefX.tabB_of_K kin cd ?_ fun z => notG tab (fun _ _ z => nomatch z) z.symm
      obtain ⟨bm, ob, b1, b2, b3, b4, b5, b6⟩ := hbm
      refine ⟨bm, ob, b1, b2, notG b3 (fun _ _ z => by rw [b6] at z; cases z), fun z => ?_, hidT_get b3 (offD b3 (fun v m z => by rw [b6] at z; cases z) fun z => by rw [b6] at z; cases z), b4, b5, b6⟩
      rw [z, tab] at b3
      cases b3
      cases b6
    have en : Env0 P w K mg (hidT sh.heap H) callerA [] sh H := by
      refine ⟨rfl, md, fun b o e => of_hidT e, ?_, trivial, fun b hb => ?_, hok, .of_eq gens⟩
      · rw [hidT_size]
        exact Nat.le_refl _
      · cases hb
    obtain ⟨ps, fd, bd, ln, run⟩ := (F _ kin (nsK gNs) TB).ex
    have inT : ∀ (b : Addr) (y : Str), (b, y) ∈ [(t, q)] → H b = some (.tbl #[]) := fun b y m => by
      rcases List.mem_cons.mp m with e | e
      · cases e
        exact atT
      · cases e
    have sp : spLaw K [(t, q)] n [.ref a] H (fun v _ => v = .bl true) fun _ _ _ => False := ⟨a, ns, rfl, seq, short, inT, fun _ => rfl⟩
    have bt := bd sh [.ref a] inK (by rw [List.append_nil]; exact ln _ _ _ _ sp)
    rw [List.append_nil] at bt
    refine codeAny_mono (run callerA [] sh H ⟨[.ref a], []⟩ [.ref a] [.ref a] _ _ rfl room en bt (.cons rfl .nil) sp) fun r s' h => ?_
    match r, h with
    | .error e, h => exact (passL_false h).elim
    | .ok (.ret u), h =>
      obtain ⟨v, H', os, bare, un, hok', ru, q⟩ := h
      have q : v = .bl true := q
      subst q
      obtain rfl : u = Value.bool true := ru
      have keep : ∀ b o, b ≠ t → sh.heap.get? b = some o → s'.heap.get? b = some o := fun b o nb e => by
        rcases only b nb with z | ⟨ob, xs, z⟩
        · exact un.keep b o e z (fun y => nomatch y) (by simp)
        · obtain ⟨e1, _⟩ := hok b _ z
          obtain ⟨e2, _⟩ := hok' b _ (un.frzs b ob _ z)
          rw [e] at e1
          cases e1
          exact e2
      obtain ⟨more, z⟩ := un.tbls t #[] atT
      have gr : s'.heap.get? t = some { cls := .none, data := .fields (#[] ++ more) } := hok' t _ z
      rw [Array.empty_append] at gr
      refine ⟨rfl, ⟨fun b o e => ?_, fun b o e => ?_⟩, os, bare⟩
      · by_cases hb : b = t
        · subst hb
          rw [tab] at e
          cases e
          exact .inr (.inl ⟨((PySem.W.codeHd_of_K inK cd).tab tab).isCodeTable, rfl, #[], more, rfl, by rw [Array.empty_append]; exact gr⟩)
        · exact .inl (keep b o hb e)
      · by_cases hb : b = t
        · subst hb
          exact ⟨_, gr⟩
        · exact ⟨o, keep b o hb e⟩
  by_cases hk : K.lookup a = none
  · refine gen (fun b => if b = t then some (.tbl #[]) else if b = a then some (.frz { cls := .type "list", data := .seq vs.toArray } (.lst (ns.map V.int))) else none) (if_pos rfl) (fun b nb => ?_) (.inl (.inr ⟨_, (if_neg nat).trans (if_pos rfl)⟩)) (fun b u z => ?_) (fun b z => ?_) fun _ => hk
    · by_cases e : b = a
      · exact .inr ⟨_, _, (if_neg nb).trans (if_pos e)⟩
      · exact .inl ((if_neg nb).trans (if_neg e))
    · by_cases et : b = t
      · subst et
        have z := (if_pos rfl).symm.trans z
        cases z
        exact tab
      · have z := (if_neg et).symm.trans z
        by_cases e : b = a
        · subst e
          have z := (if_pos rfl).symm.trans z
          cases z
          exact ⟨obj, by rw [List.length_map]; exact fit, vs, _, vals_ints iar, obj⟩
        · have z := (if_neg e).symm.trans z
          cases z
    · by_cases et : b = t
      · exact .inr et
      · by_cases e : b = a
        · exact .inl e
        · exact absurd ((if_neg et).trans (if_neg e)) z
  · obtain ⟨o, eo⟩ : ∃ o, K.lookup a = some o := by
      cases e : K.lookup a with
      | none => exact absurd e hk
      | some o => exact ⟨o, rfl⟩
    have e2 := inK a o eo
    rw [obj] at e2
    cases e2
    refine gen (fun b => if b = t then some (.tbl #[]) else none) (if_pos rfl) (fun b nb => .inl (if_neg nb)) (.inr ⟨_, vs.toArray, _, eo, rfl, rfl, rfl, by rw [List.size_toArray, len]; exact fit, by simpa using vals_ints iar⟩) (fun b u z => ?_) (fun b z => ?_) fun z => absurd (if_neg nat) z
    · by_cases et : b = t
      · subst et
        have z := (if_pos rfl).symm.trans z
        cases z
        exact tab
      · have z := (if_neg et).symm.trans z
        cases z
    · by_cases et : b = t
      · exact .inr et
      · exact absurd (if_neg et) z
end DL
set_option Elab.async false
set_option linter.all false
set_option maxRecDepth 100000
set_option maxHeartbeats 4000000
/-! # The data layer, part 27: the head of a law with closures -/
namespace DL
open PySem PySem.Spec PyProof.Rows L2
theorem walkGT {l : PySem.W.OpenLaw} {n k : Nat} {q0 : Program} {loose : List Str} {XP : (Str → Option Value) → Heap → Prop} {YP : World → Heap → Prop} {d : DefRec} {K : Params → PySem.W.Frag} {c t : Addr} {q : Str}
    (hn : l.most = some n) (hn2 : n ≤ sizeLine) (hdf : d.params.defaults = []) (hr : Room k callerA) (hY : ∀ (w : World) (h : Heap), YP w h → (K w.params).In h)
    (hT : ∀ (w : World) (h : Heap), YP w h → h.get? t = some { cls := .none, data := .fields #[] }) (nT : ∀ w : World, (K w.params).lookup t = none) (cd : ∀ w : World, PySem.W.codeHdIn (K w.params) c t = true)
    (F : ∀ (w : World) (mg : Str → Option Value) (fa : Addr) (h : Heap), (K w.params).In h → h.Ns mainGlobals mg → mg d.name = some (.ref fa) →
      ∀ base : Heap, (K w.params).In base → base.Ns mainGlobals mg → LamX.TabB base mg c t → FnG l.prog w (K w.params) mg base k fa (spLaw (K w.params) [(t, q)] n)) :
    PySem.W.WalkO q0 loose XP YP l.row.toRowW d [] (fun f vs => PySem.call f vs) :=
  Att.attach_call hn hdf fun w s₀ sh mg mb fa o pm cdv doc a vs ns G Y _ _ _ hmg obj iar hl hg =>
    law_runT (hY w _ Y) G.T.g G.T.b G.T.builtins G.T.nolimit hg (hT w _ Y) (nT w) (cd w) G.T.bmain obj iar (Nat.le_trans hl hn2) hl hr (F w mg fa _ (hY w _ Y) G.T.g hmg)
/-- one of the closures of a law -/
abbrev lawQ : Str := "law.<locals>.<lambda>"
/-- a lambda of a law is made -/
theorem de_lamL {X : Cx} {T : Tx} {Wx : WX} {pos : Pos} {params : Arguments} {body : Expr} {scope : Scope} {n : Nat} {c P : Addr} (TB : LamX.TabB X.base X.mg c P) (hcode : X.env.code = .ref c) (hq : X.env.qual = "law.<locals>.") (htb : T.tb = [(P, lawQ)]) (hcl : T.cl n = lamO X params body scope) (hcq : T.cq n = lawQ)
    (hfree : ∀ y ∈ scope.names, y.2 = .free → X.env.scope.names.lookup y.1 = some .cell ∨ X.env.scope.names.lookup y.1 = some .free) (hdef : defaultsOf params X.env = ([], []) := by rfl) : DE X T Wx (.Lambda params body scope pos) (eC (.clo n)) := by
  have e : X.env.qual ++ ("<lambda>" : Str) = lawQ := by rw [hq]; decide
  exact de_lam TB hcode (by rw [e, htb]; exact List.mem_singleton.mpr rfl) (fun p hp _ => by
    rw [htb] at hp
    rw [List.mem_singleton.mp hp, e]) hcl (hcq.trans e.symm) hfree hdef
end DL
namespace DL
open PySem PySem.Spec PyProof.Rows L2
/-! ### places in a text -/
/-- the expressions just below an expression -/
def kidsE : Expr → List Expr
  | .Call f es _ _ => f :: es
  | .Tuple es _ _ => es
  | .List es _ => es
  | .Compare a _ bs _ => a :: bs
  | .BoolOp _ es _ => es
  | .BinOp a _ b _ => [a, b]
  | .UnaryOp _ a _ => [a]
  | .IfExp a b c _ => [a, b, c]
  | .Subscript a b _ => [a, b]
  | .ListComp e _ _ _ => [e]
  | _ => []
def nilE : Expr := .Constant .none 0 ⟨0, 0, 0, 0⟩
def goE (e : Expr) : List Nat → Expr
  | [] => e
  | i :: r => goE ((kidsE e).getD i nilE) r
/-- the expression of a statement -/
def exprS : Stmt → Expr
  | .Return (some e) _ => e
  | .Assign _ e _ => e
  | .Expr e _ => e
  | .If e _ _ _ => e
  | .For _ e _ _ _ => e
  | .While e _ _ _ => e
  | .AugAssign _ _ e _ => e
  | _ => nilE
def bodyS : Stmt → List Stmt
  | .If _ a b _ => a ++ b
  | .For _ _ a b _ => a ++ b
  | .While _ a b _ => a ++ b
  | _ => []
def goS (l : List Stmt) : List Nat → Stmt
  | [] => .Pass ⟨0, 0, 0, 0⟩
  | [i] => l.getD i (.Pass ⟨0, 0, 0, 0⟩)
  | i :: r => goS (bodyS (l.getD i (.Pass ⟨0, 0, 0, 0⟩))) r
/-- the closure object of the lambda at a place -/
def lamAt (X : Cx) (l : List Stmt) (sp ep : List Nat) : Addr → Addr → HO := match goE (exprS (goS l sp)) ep with
  | .Lambda p b s _ => lamO X p b s
  | _ => fun _ _ => .tbl #[]
def bodyAt (l : List Stmt) (sp ep : List Nat) : Arguments × Expr × Scope := match goE (exprS (goS l sp)) ep with
  | .Lambda p b s _ => (p, b, s)
  | _ => ({ posonlyargs := [], args := [], vararg := none, kwonlyargs := [], kw_defaults := [], kwarg := none, defaults := [] }, nilE, { kind := .function, names := [], isGenerator := false, isCoroutine := false })
end DL
set_option Elab.async false
set_option linter.all false
set_option maxRecDepth 100000
set_option maxHeartbeats 4000000
/-! # The data layer, part 28: which clause names an error -/
namespace DL
open PySem PySem.Spec PyProof.Rows L2
theorem exm_of {K : PySem.W.Frag} {S S' : Addr} {b : Bool} (be : PySem.W.subIn K (.ref S') (.type "BaseException") = some true) (ic : PySem.W.isClsIn K S' = true) (ty : PySem.W.typeIn K (.ref S') = some (.type "type")) (sub : PySem.W.subIn K (.ref S) (.ref S') = some b) :
    PySem.W.exmOne K (.ref S) (.ref S') = some b := by
  have e1 : (PySem.W.subIn K (.ref S') (.type "BaseException") == some true) = true := by rw [be]; rfl
  have e2 : ((PySem.W.clsIn K S').isSome && PySem.W.typeIn K (.ref S') == some (.type "type")) = true := by
    rw [ty, show (PySem.W.clsIn K S').isSome = true from ic]
    rfl
  unfold PySem.W.exmOne
  rw [if_pos e1]
  exact (if_pos e2).trans sub
end DL
set_option Elab.async false
set_option linter.all false
set_option maxRecDepth 100000
set_option maxHeartbeats 4000000
/-! # The data layer, part 29: [::-1], max and min of rows, rows of ranges -/
namespace DL
open PySem PySem.Spec PyProof.Rows L2 HT

/-! ### [::-1] -/
section
variable {prog : Program} {w : World} {A : Around} {E : Value → Shared → Prop} {s : Shared}
theorem slicePart1 {Q : Option Int → Shared → Prop} {v : Value} {i : Int} (p : IsPart v (some i)) (h : Q (some i) s) : wpAny (model prog w) A (Builtin.Slice.slicePartIndex v) Q E s := slicePart_ p h
theorem sliceApplied_rev {sl : Addr} {vl vu vs : Value} {n : Nat} {Q : Int × Int × Nat → Shared → Prop} (hs : s.heap.IsSliceOf sl vl vu vs) (pl : IsPart vl none) (pu : IsPart vu none) (ps : IsPart vs (some (-1)))
    (h : Q ((n : Int) - 1, -1, n) s) : wpAny (model prog w) A (Builtin.Slice.sliceApplied (.ref sl) (pure (n : Int))) Q E s := by
  obtain ⟨os, hos, hcs, hds⟩ := id hs
  unfold Builtin.Slice.sliceApplied Builtin.Slice.sliceFields
  refine wpAny_bind (wpAny_bind (wpAny_field hos hds (x := vl) rfl (wpAny_bind (wpAny_field hos hds (x := vu) rfl (wpAny_bind (wpAny_field hos hds (x := vs) rfl (wpAny_pure ?_)))))))
  refine wpAny_bind (slicePart_ ps ?_)
  show wpAny _ _ (if ((-1 : Int) == 0) = true then _ else _) _ _ s
  rw [if_neg (by decide)]
  refine wpAny_bind (slicePart_ pl (wpAny_bind (slicePart_ pu (wpAny_bind (wpAny_pure ?_)))))
  show wpAny _ _ (match Builtin.Slice.sliceAdjust none none (-1) (n : Int) with | (lo, hi) => pure (lo, (-1 : Int), Builtin.Slice.slicePlaces lo hi (-1))) _ _ s
  have e1 : Builtin.Slice.sliceAdjust none none (-1) (n : Int) = ((n : Int) - 1, -1) := by
    unfold Builtin.Slice.sliceAdjust
    simp
  rw [e1]
  show wpAny _ _ (pure ((n : Int) - 1, (-1 : Int), Builtin.Slice.slicePlaces ((n : Int) - 1) (-1) (-1))) _ _ s
  have e2 : Builtin.Slice.slicePlaces ((n : Int) - 1) (-1) (-1) = n := by
    unfold Builtin.Slice.slicePlaces
    simp only [show ¬ ((-1 : Int) > 0) by decide, if_false]
    rw [show (-(-1 : Int)) = 1 from rfl, Int.ediv_one]
    split <;> omega
  rw [e2]
  exact wpAny_pure h
theorem fm_congr {α β : Type} {f g : α → Option β} : ∀ {l : List α}, (∀ x ∈ l, f x = g x) → l.filterMap f = l.filterMap g
  | [], _ => rfl
  | x :: l, h => by
    rw [List.filterMap_cons, List.filterMap_cons, h x List.mem_cons_self, fm_congr fun y hy => h y (List.mem_cons_of_mem _ hy)]
theorem pick_rev (xs : Array Value) : ((List.range xs.size).filterMap fun (k : Nat) => xs[((xs.size : Int) - 1 + (k : Int) * (-1)).toNat]?).toArray = xs.toList.reverse.toArray := by
  have e : ((List.range xs.size).filterMap fun (k : Nat) => xs[((xs.size : Int) - 1 + (k : Int) * (-1)).toNat]?) = ((List.range xs.size).map fun k => xs.size - 1 - k).filterMap (xs[·]?) := by
    rw [List.filterMap_map]
    refine fm_congr fun k hk => ?_
    have hk := List.mem_range.mp hk
    show _ = xs[xs.size - 1 - k]?
    rw [show ((xs.size : Int) - 1 + (k : Int) * (-1)).toNat = xs.size - 1 - k by omega]
  rw [e, PySem.W.krv_range, List.filterMap_reverse, PySem.W.krv_all]
theorem getItem_tuple_rev {t sl : Addr} {items : Array Value} {vl vu vs : Value} {Q : Value → Shared → Prop} (ht : IsTup s.heap t items) (hs : s.heap.IsSliceOf sl vl vu vs) (pl : IsPart vl none) (pu : IsPart vu none) (ps : IsPart vs (some (-1)))
    (h : Q (.ref s.heap.objs.size) { s with heap := s.heap.push { cls := .type "tuple", data := .seq items.toList.reverse.toArray } })
    (hsz : items.size ≤ sizeLine) : wpAny (model prog w) A (getItem (.ref t) (.ref sl)) Q E s := by
  have htake : sizeOk (.seq items.toList.reverse.toArray) := by
    show items.toList.reverse.toArray.size ≤ sizeLine
    rw [List.size_toArray, List.length_reverse, Array.length_toList]
    exact hsz
  obtain ⟨os, hos, hcs, hds⟩ := id hs
  have hTs : s.TypeIs (.ref sl) "slice" := ⟨os, hos, hcs⟩
  unfold getItem
  try with_reducible refine wpAny_holding ?_
  first | refine wpAny_bind (wpAny_pure ?_) | skip
  refine wpAny_bind (wpAny_sequenceKey ht.typeIs (by decide) ?_)
  refine wpAny_bind (wpAny_callSpecial?_slot (name := Str.ofString "__getitem__") ht.typeIs PyProof.Rows.slot_tuple_getitem
    (wpAny_call_entry PyProof.Rows.slot_tuple_getitem ht.typeIs entry_tuple_getitem ?_ (args_tuple_getitem _ _)))
  show wpAny _ _ (Builtin.Tuple.tupleItemsOf (.ref t) >>= _) _ _ s
  refine wpAny_bind (tupleItemsOf_ ht ?_)
  refine wpAny_bind (wpAny_typeOf hTs ?_)
  rw [if_pos (by decide)]
  refine wpAny_bind (sliceApplied_rev hs pl pu ps ?_)
  have hno : ¬ ((((items.size : Int) - 1) == 0 && (-1 : Int) == 1 && items.size == items.size) = true) := by
    intro q
    rw [Bool.and_eq_true, Bool.and_eq_true] at q
    exact absurd q.1.2 (by decide)
  show wpAny _ _ (if (((items.size : Int) - 1) == 0 && (-1 : Int) == 1 && items.size == items.size) = true then _ else _) _ _ s
  rw [if_neg hno, pick_rev]
  first
    | exact wpAny_bind (m := Builtin.Tuple.tupleExact _) (wpAny_newObj_type (wpAny_pure ⟨_, rfl, wpAny_pure h⟩) htake)
    | exact wpAny_bind (m := Builtin.Tuple.tupleExact _) (wpAny_newObj_type (wpAny_bind (wpAny_pure (wpAny_pure ⟨_, rfl, wpAny_pure h⟩))) htake)
    | exact wpAny_bind (wpAny_bind (m := Builtin.Tuple.tupleExact _) (wpAny_newObj_type (wpAny_pure (wpAny_pure ⟨_, rfl, wpAny_pure h⟩)) htake))
    | exact wpAny_bind (wpAny_bind (m := Builtin.Tuple.tupleExact _) (wpAny_newObj_type (wpAny_pure ⟨_, rfl, wpAny_pure h⟩) htake))
end
def rRevA (K : PySem.W.Frag) : V → Hp → VK → Prop := fun x H Q => ∃ a xs, x = .ref a ∧ ((SqL K H a xs ∧ ∀ p, H p = none → Q (.ref p) (upd H p (.lst xs.reverse))) ∨ (SqT K H a xs ∧ ∀ p, H p = none → Q (.ref p) (upd H p (.tup xs.reverse))))
theorem pe_revA {X : Cx} {e : Expr} {te : TE} {k : Nat} {p1 p2 p3 pos : Pos} (he : PE X e te) : PE X (.Subscript e (.Slice none none (some (.UnaryOp .USub (.Constant (.int 1) k p1) p2)) p3) pos) (fun σ H Q => te σ H fun x H1 => rRevA X.K x H1 Q) := by
  refine ⟨fun pins s σ H Q I h => ?_⟩
  refine Subscript_ (thn (he.run pins s σ H _ I h) fun v s1 ⟨x, H1, I1, r1, q1⟩ => ?_)
  obtain ⟨a, xs, ex, q1⟩ := q1
  subst ex
  cases r1
  have hst : PO X (some (.UnaryOp .USub (.Constant (.int 1) k p1) p2)) (tPart (tUn (rU fun i => .int (-i)) (tC (.int 1)))) := po_some (pe_un un_neg pe_int)
  refine wpAny_Slice (thn (po_none.run pins s1 σ H1 (fun o H2 => o = none ∧ H2 = H1) I1 ⟨rfl, rfl⟩) fun vl s2 ⟨l, H2, I2, pl, el, e2⟩ => ?_)
  subst el e2
  refine thn (po_none.run pins s2 σ H2 (fun o H3 => o = none ∧ H3 = H2) I2 ⟨rfl, rfl⟩) fun vu s3 ⟨u, H3, I3, pu, eu, e3⟩ => ?_
  subst eu e3
  refine thn (hst.run pins s3 σ H3 (fun o H4 => o = some (-1) ∧ H4 = H3) I3 ⟨1, rfl, -1, rfl, rfl, rfl⟩) fun vs s4 ⟨o, H4, I4, ps, eo, e4⟩ => ?_
  subst eo e4
  have I5 : Inv X pins σ H4 { s4 with heap := s4.heap.push { cls := .type "slice", data := .fields #[vl, vu, vs] } } := I4.kept (t' := s4.toks) fun b ob q => Heap.get?_push_of_some _ q
  show wpAny (model X.prog X.w) X.A (subscriptTail e (.Slice none none (some (.UnaryOp .USub (.Constant (.int 1) k p1) p2)) p3) (.ref a) (.ref s4.heap.objs.size)) (EP X pins σ Q) X.xe { s4 with heap := s4.heap.push { cls := .type "slice", data := .fields #[vl, vu, vs] } }
  rcases q1 with ⟨hx, q⟩ | ⟨hx, q⟩
  · obtain ⟨its, r, ht, hz⟩ := I5.list hx
    have hlen := r.length
    refine tail_any (ops := [.ref a, .ref s4.heap.objs.size]) ht.isList.typeIs (PySem.slot_list_getitem.lookup) ?_ (by with_unfolding_all rfl)
    refine wpAny_getItem_list_slice ht.isList (Heap.IsSliceOf.new _ vl vu vs) pl pu ps (by decide) ?_ (by rw [List.size_toArray]; omega)
    rw [PySem.W.krv_pick]
    refine ⟨.ref _, _, I5.laid (t' := s4.toks) (o := .lst xs.reverse) (fun b ob q => Heap.get?_push_of_some _ q) (Nat.le_refl _) ?_, rfl, q _ (I5.hok.fresh (Nat.le_refl _))⟩
    exact ⟨by rw [List.length_reverse]; exact hz, _, 0, r.reverse, Heap.get?_push_size _ rfl⟩
  · obtain ⟨its, r, ht, hz⟩ := I5.tuple hx
    have hlen := r.length
    refine tail_any (ops := [.ref a, .ref s4.heap.objs.size]) ht.typeIs (PyProof.Rows.slot_tuple_getitem.lookup) ?_ (by with_unfolding_all rfl)
    refine getItem_tuple_rev ht (Heap.IsSliceOf.new _ vl vu vs) pl pu ps ?_ (by rw [List.size_toArray]; omega)
    refine ⟨.ref _, _, I5.laid (t' := s4.toks) (o := .tup xs.reverse) (fun b ob q => Heap.get?_push_of_some _ q) (Nat.le_refl _) ?_, rfl, q _ (I5.hok.fresh (Nat.le_refl _))⟩
    exact ⟨by rw [List.length_reverse]; exact hz, _, r.reverse, IsTup.new _ _⟩
def opRev (x : Z) : Option Z :=
  match x.d with
  | .lst l => some ⟨.lst l.reverse, [], x.c, 1⟩
  | .tup l => some ⟨.tup l.reverse, [], x.c, 0⟩
  | _ => none
section
variable {X : Cx} {T : Tx} {Wx : WX} {a b : Expr} {f g : M Z}
theorem de_rev {k : Nat} {p1 p2 p3 pos : Pos} (hK : T.K = X.K) (ha : DE X T Wx a f) : DE X T Wx (.Subscript a (.Slice none none (some (.UnaryOp .USub (.Constant (.int 1) k p1) p2)) p3) pos) (eUn opRev f) := by
  refine (pe_revA ha).mono fun σ H Q h => up_one (fun vx H Q h => ?_) h
  obtain ⟨Mo, fp, Hx, x, z, c, zx, e, k⟩ := h
  unfold opRev at e
  split at e
  · rename_i l e1
    cases e
    obtain ⟨r, vs, rfl, h1, h2⟩ := zx.lst e1
    exact ⟨r, vs, rfl, .inl ⟨.of h1, fun p np => k _ _ (.new np) (c.newLst np h2.rev)⟩⟩
  · rename_i l e1
    cases e
    obtain ⟨r, vs, rfl, h1, h2⟩ := zx.tup e1
    exact ⟨r, vs, rfl, .inr ⟨hK ▸ hid_sub.sqt h1, fun p np => k _ _ (.new np) (c.newTup np h2.rev)⟩⟩
  · cases e
/-! ### list(range(..)), tuple(range(..)) -/
theorem Rps.rng {F : Hp} : ∀ (n : Nat) (lo : Int), Rps T F (rangeD lo 1 n) ((List.range n).map fun k => V.int (lo + (k : Nat)))
  | 0, lo => rfl
  | n + 1, lo => by
    rw [List.range_succ_eq_map, List.map_cons, List.map_map]
    refine ⟨_, _, rfl, ?_, ?_⟩
    · show V.int (lo + (0 : Nat)) = .int lo
      rw [show lo + ((0 : Nat) : Int) = lo by omega]
    · have h := Rps.rng (F := F) n (lo + 1)
      have e : ((fun k : Nat => V.int (lo + (k : Nat))) ∘ Nat.succ) = fun k : Nat => V.int (lo + 1 + (k : Nat)) := by
        funext k
        show V.int (lo + ((k + 1 : Nat) : Int)) = _
        congr 1
        omega
      rw [e]
      exact h
def rgOkB (i j : Int) : Bool := decide (-(2 ^ 62) ≤ i) && decide (i < 2 ^ 62) && decide (-(2 ^ 62) ≤ j) && decide (j < 2 ^ 62) && decide ((j - i).toNat ≤ LIM)
theorem rgOk_of {i j : Int} (h : rgOkB i j = true) : RgOk i j := by
  unfold rgOkB at h
  simp only [Bool.and_eq_true, decide_eq_true_eq] at h
  exact ⟨h.1.1.1.1, h.1.1.1.2, h.1.1.2, h.1.2, Nat.le_trans h.2 (by decide)⟩
def opLrL (x y : Z) : Option Z :=
  match x.d, y.d with
  | .int i, .int j => if rgOkB i j = true then some ⟨.lst (rangeD i 1 (j - i).toNat), [], [], 1⟩ else none
  | _, _ => none
def opLrT (x y : Z) : Option Z :=
  match x.d, y.d with
  | .int i, .int j => if rgOkB i j = true then some ⟨.tup (rangeD i 1 (j - i).toNat), [], [], 0⟩ else none
  | _, _ => none
theorem de_lrL2 {p pos q qos : Pos} (hc : X.calm = true) (hg : Gl X "list") (hm : X.mg "list" = none) (hg2 : Gl X "range") (hm2 : X.mg "range" = none) (ha : DE X T Wx a f) (hb : DE X T Wx b g)
    (n0 : starEach [.Call (.Name "range" q) [a, b] [] qos] X.env = (false, eval (.Call (.Name "range" q) [a, b] [] qos) X.env) :: starEach [] X.env := by rfl)
    (na : starEach [a, b] X.env = (false, eval a X.env) :: starEach [b] X.env := by rfl) (nb : starEach [b] X.env = (false, eval b X.env) :: starEach [] X.env := by rfl) (hp : (backTo qos (starEach [b] X.env)).any (·.1) = false := by rfl) :
    DE X T Wx (.Call (.Name "list" p) [.Call (.Name "range" q) [a, b] [] qos] [] pos) (eOp opLrL f g) := by
  refine (pe_listRg hc hg hm (prg_2 hg2 hm2 ha hb na nb hp) n0).mono fun σ H Q h => ?_
  show upE T Wx f σ H fun x H1 => upE T Wx g σ H1 fun y H2 => ∃ i j, x = .int i ∧ y = .int j ∧ RgOk i j ∧ ∀ q, H2 q = none → Q (.ref q) (upd H2 q (.lst (rgV i j)))
  refine up_two (r := fun x y H2 Q => ∃ i j, x = .int i ∧ y = .int j ∧ RgOk i j ∧ ∀ q, H2 q = none → Q (.ref q) (upd H2 q (.lst (rgV i j)))) (fun vx vy H Q h => ?_) h
  obtain ⟨Mo, fp, Hx, Hy, x, y, z, c, zx, zy, e, k⟩ := h
  unfold opLrL at e
  split at e
  · rename_i i j e1 e2
    split at e
    · rename_i e3
      cases e
      exact ⟨i, j, zx.int e1, zy.int e2, rgOk_of e3, fun q nq => k _ _ (.new nq) (c.newLst nq (.rng _ _))⟩
    · cases e
  · cases e
theorem de_lrT2 {p pos q qos : Pos} (hc : X.calm = true) (hg : Gl X "tuple") (hm : X.mg "tuple" = none) (hg2 : Gl X "range") (hm2 : X.mg "range" = none) (ha : DE X T Wx a f) (hb : DE X T Wx b g)
    (n0 : starEach [.Call (.Name "range" q) [a, b] [] qos] X.env = (false, eval (.Call (.Name "range" q) [a, b] [] qos) X.env) :: starEach [] X.env := by rfl)
    (na : starEach [a, b] X.env = (false, eval a X.env) :: starEach [b] X.env := by rfl) (nb : starEach [b] X.env = (false, eval b X.env) :: starEach [] X.env := by rfl) (hp : (backTo qos (starEach [b] X.env)).any (·.1) = false := by rfl) :
    DE X T Wx (.Call (.Name "tuple" p) [.Call (.Name "range" q) [a, b] [] qos] [] pos) (eOp opLrT f g) := by
  refine (pe_tupRg hc hg hm (prg_2 hg2 hm2 ha hb na nb hp) n0).mono fun σ H Q h => ?_
  show upE T Wx f σ H fun x H1 => upE T Wx g σ H1 fun y H2 => ∃ i j, x = .int i ∧ y = .int j ∧ RgOk i j ∧ ∀ q, H2 q = none → Q (.ref q) (upd H2 q (.tup (rgV i j)))
  refine up_two (r := fun x y H2 Q => ∃ i j, x = .int i ∧ y = .int j ∧ RgOk i j ∧ ∀ q, H2 q = none → Q (.ref q) (upd H2 q (.tup (rgV i j)))) (fun vx vy H Q h => ?_) h
  obtain ⟨Mo, fp, Hx, Hy, x, y, z, c, zx, zy, e, k⟩ := h
  unfold opLrT at e
  split at e
  · rename_i i j e1 e2
    split at e
    · rename_i e3
      cases e
      exact ⟨i, j, zx.int e1, zy.int e2, rgOk_of e3, fun q nq => k _ _ (.new nq) (c.newTup nq (.rng _ _))⟩
    · cases e
  · cases e
theorem de_lrL1 {p pos q qos : Pos} (hc : X.calm = true) (hg : Gl X "list") (hm : X.mg "list" = none) (hg2 : Gl X "range") (hm2 : X.mg "range" = none) (ha : DE X T Wx a f)
    (n0 : starEach [.Call (.Name "range" q) [a] [] qos] X.env = (false, eval (.Call (.Name "range" q) [a] [] qos) X.env) :: starEach [] X.env := by rfl)
    (na : starEach [a] X.env = (false, eval a X.env) :: starEach [] X.env := by rfl) :
    DE X T Wx (.Call (.Name "list" p) [.Call (.Name "range" q) [a] [] qos] [] pos) (eUn (opLrL (zS (.int 0))) f) := by
  refine (pe_listRg hc hg hm (prg_1 hg2 hm2 ha na) n0).mono fun σ H Q h => ?_
  show upE T Wx f σ H fun x H1 => ∃ n, x = .int n ∧ RgOk 0 n ∧ ∀ q, H1 q = none → Q (.ref q) (upd H1 q (.lst (rgV 0 n)))
  refine up_one (r := fun x H1 Q => ∃ n, x = .int n ∧ RgOk 0 n ∧ ∀ q, H1 q = none → Q (.ref q) (upd H1 q (.lst (rgV 0 n)))) (fun vx H Q h => ?_) h
  obtain ⟨Mo, fp, Hx, x, z, c, zx, e, k⟩ := h
  unfold opLrL at e
  split at e
  · rename_i i j e1 e2
    cases e1
    split at e
    · rename_i e3
      cases e
      exact ⟨j, zx.int e2, rgOk_of e3, fun q nq => k _ _ (.new nq) (c.newLst nq (.rng _ _))⟩
    · cases e
  · cases e
theorem de_lrT1 {p pos q qos : Pos} (hc : X.calm = true) (hg : Gl X "tuple") (hm : X.mg "tuple" = none) (hg2 : Gl X "range") (hm2 : X.mg "range" = none) (ha : DE X T Wx a f)
    (n0 : starEach [.Call (.Name "range" q) [a] [] qos] X.env = (false, eval (.Call (.Name "range" q) [a] [] qos) X.env) :: starEach [] X.env := by rfl)
    (na : starEach [a] X.env = (false, eval a X.env) :: starEach [] X.env := by rfl) :
    DE X T Wx (.Call (.Name "tuple" p) [.Call (.Name "range" q) [a] [] qos] [] pos) (eUn (opLrT (zS (.int 0))) f) := by
  refine (pe_tupRg hc hg hm (prg_1 hg2 hm2 ha na) n0).mono fun σ H Q h => ?_
  show upE T Wx f σ H fun x H1 => ∃ n, x = .int n ∧ RgOk 0 n ∧ ∀ q, H1 q = none → Q (.ref q) (upd H1 q (.tup (rgV 0 n)))
  refine up_one (r := fun x H1 Q => ∃ n, x = .int n ∧ RgOk 0 n ∧ ∀ q, H1 q = none → Q (.ref q) (upd H1 q (.tup (rgV 0 n)))) (fun vx H Q h => ?_) h
  obtain ⟨Mo, fp, Hx, x, z, c, zx, e, k⟩ := h
  unfold opLrT at e
  split at e
  · rename_i i j e1 e2
    cases e1
    split at e
    · rename_i e3
      cases e
      exact ⟨j, zx.int e2, rgOk_of e3, fun q nq => k _ _ (.new nq) (c.newTup nq (.rng _ _))⟩
    · cases e
  · cases e
end
end DL
set_option Elab.async false
set_option linter.all false
set_option maxRecDepth 100000
set_option maxHeartbeats 4000000
/-! # The data layer, part 30: the greatest and the least of a row of ints -/
namespace DL
open PySem PySem.Spec PyProof.Rows L2 HT
def maxF : List Int → Int → Int
  | [], m => m
  | x :: xs, m => maxF xs (if x > m then x else m)
def minF : List Int → Int → Int
  | [], m => m
  | x :: xs, m => minF xs (if x < m then x else m)
def maxL : List Int → Int
  | [] => 0
  | x :: xs => maxF xs x
def minL : List Int → Int
  | [] => 0
  | x :: xs => minF xs x
theorem maxF_spec : ∀ (xs : List Int) (m : Int), (maxF xs m = m ∨ maxF xs m ∈ xs) ∧ m ≤ maxF xs m ∧ ∀ a ∈ xs, a ≤ maxF xs m
  | [], m => ⟨.inl rfl, Int.le_refl _, fun _ h => by cases h⟩
  | x :: xs, m => by
    obtain ⟨h1, h2, h3⟩ := maxF_spec xs (if x > m then x else m)
    rw [show maxF (x :: xs) m = maxF xs (if x > m then x else m) from rfl]
    refine ⟨?_, ?_, fun a ha => ?_⟩
    · rcases h1 with h1 | h1
      · rw [h1]
        split
        · exact .inr List.mem_cons_self
        · exact .inl rfl
      · exact .inr (List.mem_cons_of_mem _ h1)
    · refine Int.le_trans ?_ h2
      split <;> omega
    · rcases List.mem_cons.mp ha with e | e
      · subst e
        refine Int.le_trans ?_ h2
        split <;> omega
      · exact h3 a e
theorem minF_spec : ∀ (xs : List Int) (m : Int), (minF xs m = m ∨ minF xs m ∈ xs) ∧ minF xs m ≤ m ∧ ∀ a ∈ xs, minF xs m ≤ a
  | [], m => ⟨.inl rfl, Int.le_refl _, fun _ h => by cases h⟩
  | x :: xs, m => by
    obtain ⟨h1, h2, h3⟩ := minF_spec xs (if x < m then x else m)
    rw [show minF (x :: xs) m = minF xs (if x < m then x else m) from rfl]
    refine ⟨?_, ?_, fun a ha => ?_⟩
    · rcases h1 with h1 | h1
      · rw [h1]
        split
        · exact .inr List.mem_cons_self
        · exact .inl rfl
      · exact .inr (List.mem_cons_of_mem _ h1)
    · refine Int.le_trans h2 ?_
      split <;> omega
    · rcases List.mem_cons.mp ha with e | e
      · subst e
        refine Int.le_trans h2 ?_
        split <;> omega
      · exact h3 a e
theorem maxL_is {ns : List Int} {M : Int} (h1 : M ∈ ns) (h2 : ∀ a, a ∈ ns → a ≤ M) : M = maxL ns := by
  cases ns with
  | nil => cases h1
  | cons x xs =>
    obtain ⟨a, b, c⟩ := maxF_spec xs x
    have u : maxF xs x ≤ M := by
      rcases a with a | a
      · rw [a]
        exact h2 x List.mem_cons_self
      · exact h2 _ (List.mem_cons_of_mem _ a)
    have v : M ≤ maxF xs x := by
      rcases List.mem_cons.mp h1 with e | e
      · rw [e]
        exact b
      · exact c M e
    exact Int.le_antisymm v u
theorem minL_is {ns : List Int} {M : Int} (h1 : M ∈ ns) (h2 : ∀ a, a ∈ ns → M ≤ a) : M = minL ns := by
  cases ns with
  | nil => cases h1
  | cons x xs =>
    obtain ⟨a, b, c⟩ := minF_spec xs x
    have u : M ≤ minF xs x := by
      rcases a with a | a
      · rw [a]
        exact h2 x List.mem_cons_self
      · exact h2 _ (List.mem_cons_of_mem _ a)
    have v : minF xs x ≤ M := by
      rcases List.mem_cons.mp h1 with e | e
      · rw [e]
        exact b
      · exact c M e
    exact Int.le_antisymm u v
section
variable {prog : Program} {w : World} {A : Around} {E : Value → Shared → Prop} {s : Shared} {l : Addr} {its : List Value} {ns : List Int} {Q : Value → Shared → Prop}
theorem maxT_raw (hh : A.handled = none) (hl : s.heap.IsTuple l its.toArray) (hi : IntsAre its ns) (hne : 0 < ns.length)
    (h : ∀ h' tk M t', (∀ b o, s.heap.get? b = some o → h'.get? b = some o) → M ∈ ns → (∀ a, a ∈ ns → a ≤ M) → Q (.int M t') { s with heap := h', toks := tk }) : wpAny (model prog w) A (call (.builtin "max") [.ref l]) Q E s := by
  obtain ⟨xs, e⟩ := hi.allInts.items
  have hn : numsOf (intItems xs).toList = ns := by rw [← e]; exact hi.numsOf
  rw [nums_intItems] at hn
  subst hn
  rw [e] at hl
  have hsz : 0 < xs.size := by simpa using hne
  obtain ⟨o, ho, hc, n, hd⟩ := id hl
  have hne' : l ≠ s.heap.objs.size := Nat.ne_of_lt (Heap.lt_size ho)
  refine call_max_walk (wpAny_pyIter_tuple hl ?_)
  refine ⟨_, _, _, _, _, _, _, rfl, Walks.tuple (A := A.in1) hh s.heap.objs.size l hne' (intItems xs), ⟨⟨_, Heap.get?_push_size _ rfl, rfl, rfl⟩, hl.at fun o e => Heap.get?_push_of_some _ e⟩, fun b hb => ?_, by simpa [intItems] using hsz, CmpOf.ints_gt (numAt xs) (fun _ _ => intItems_at), fun v h' tk hP hk => ?_⟩
  · rcases List.mem_cons.mp hb with rfl | hb
    · exact Heap.lt_size (Heap.get?_push_size _ rfl)
    · obtain rfl := List.mem_singleton.mp hb
      exact Heap.lt_size (Heap.get?_push_of_some _ ho)
  · obtain ⟨t, rfl⟩ := intItems_at (show (intItems xs)[argBest (fun i j => decide (numAt xs i > numAt xs j)) (xs.size - 1)]? = some v by simpa [intItems] using hP)
    obtain ⟨h1, h2⟩ := argBest_gt (numAt xs) (xs.size - 1)
    refine h h' tk _ t (fun b o e => hk b o (fun hb => absurd (Heap.lt_size e) ((List.mem_singleton.mp hb) ▸ Nat.lt_irrefl _)) (Heap.get?_push_of_some _ e)) ?_ fun a ha => ?_
    · rw [numAt_eq]; exact PySem.getD_mem (by rw [List.length_map, Array.length_toList]; omega)
    · obtain ⟨j, hj, rfl⟩ := mem_getD ha
      rw [List.length_map, Array.length_toList] at hj
      rw [← numAt_eq]; exact h2 j (by omega)
theorem minT_raw (hh : A.handled = none) (hl : s.heap.IsTuple l its.toArray) (hi : IntsAre its ns) (hne : 0 < ns.length)
    (h : ∀ h' tk M t', (∀ b o, s.heap.get? b = some o → h'.get? b = some o) → M ∈ ns → (∀ a, a ∈ ns → M ≤ a) → Q (.int M t') { s with heap := h', toks := tk }) : wpAny (model prog w) A (call (.builtin "min") [.ref l]) Q E s := by
  obtain ⟨xs, e⟩ := hi.allInts.items
  have hn : numsOf (intItems xs).toList = ns := by rw [← e]; exact hi.numsOf
  rw [nums_intItems] at hn
  subst hn
  rw [e] at hl
  have hsz : 0 < xs.size := by simpa using hne
  obtain ⟨o, ho, hc, n, hd⟩ := id hl
  have hne' : l ≠ s.heap.objs.size := Nat.ne_of_lt (Heap.lt_size ho)
  refine call_min_walk (wpAny_pyIter_tuple hl ?_)
  refine ⟨_, _, _, _, _, _, _, rfl, Walks.tuple (A := A.in1) hh s.heap.objs.size l hne' (intItems xs), ⟨⟨_, Heap.get?_push_size _ rfl, rfl, rfl⟩, hl.at fun o e => Heap.get?_push_of_some _ e⟩, fun b hb => ?_, by simpa [intItems] using hsz, CmpOf.ints_lt (numAt xs) (fun _ _ => intItems_at), fun v h' tk hP hk => ?_⟩
  · rcases List.mem_cons.mp hb with rfl | hb
    · exact Heap.lt_size (Heap.get?_push_size _ rfl)
    · obtain rfl := List.mem_singleton.mp hb
      exact Heap.lt_size (Heap.get?_push_of_some _ ho)
  · obtain ⟨t, rfl⟩ := intItems_at (show (intItems xs)[argBest (fun i j => decide (numAt xs i < numAt xs j)) (xs.size - 1)]? = some v by simpa [intItems] using hP)
    obtain ⟨h1, h2⟩ := argBest_lt (numAt xs) (xs.size - 1)
    refine h h' tk _ t (fun b o e => hk b o (fun hb => absurd (Heap.lt_size e) ((List.mem_singleton.mp hb) ▸ Nat.lt_irrefl _)) (Heap.get?_push_of_some _ e)) ?_ fun a ha => ?_
    · rw [numAt_eq]; exact PySem.getD_mem (by rw [List.length_map, Array.length_toList]; omega)
    · obtain ⟨j, hj, rfl⟩ := mem_getD ha
      rw [List.length_map, Array.length_toList] at hj
      rw [← numAt_eq]; exact h2 j (by omega)
end
def rMaxI (K : PySem.W.Frag) (g : List Int → Int) : List V → Hp → VK → Prop := fun vs H Q => ∃ (a : Addr) (ns : List Int), vs = [V.ref a] ∧ (SqL K H a (ns.map V.int) ∨ SqT K H a (ns.map V.int)) ∧ 0 < ns.length ∧ Q (.int (g ns)) H
section
variable {X : Cx}
theorem cr_maxI (hc : X.calm = true) : CallR X (.builtin "max") (rMaxI X.K maxL) := by
  intro pins s σ H vs us Q I r h
  obtain ⟨a, ns, rfl, hs | hs, hne, q⟩ := h
  · exact cr_max hc _ _ _ _ _ us Q I r ⟨a, ns, rfl, hs, hne, fun M h1 h2 => by rw [maxL_is h1 h2]; exact q⟩
  · obtain ⟨its, rv, hl, _⟩ := I.tuple hs
    rw [Vals.ref1 r]
    exact maxT_raw (I.ok.hd hc) hl rv.ints hne fun h' tk M t' hk h1 h2 => ⟨.int _, H, I.kept hk, ⟨_, rfl⟩, by rw [maxL_is h1 h2]; exact q⟩
theorem cr_minI (hc : X.calm = true) : CallR X (.builtin "min") (rMaxI X.K minL) := by
  intro pins s σ H vs us Q I r h
  obtain ⟨a, ns, rfl, hs | hs, hne, q⟩ := h
  · exact cr_min hc _ _ _ _ _ us Q I r ⟨a, ns, rfl, hs, hne, fun M h1 h2 => by rw [minL_is h1 h2]; exact q⟩
  · obtain ⟨its, rv, hl, _⟩ := I.tuple hs
    rw [Vals.ref1 r]
    exact minT_raw (I.ok.hd hc) hl rv.ints hne fun h' tk M t' hk h1 h2 => ⟨.int _, H, I.kept hk, ⟨_, rfl⟩, by rw [minL_is h1 h2]; exact q⟩
def biBest (g : List Int → Int) : List Z → Option Z
  | [x] => match seqD x.d with
    | some l => match intsOf l with | some ns => if decide (0 < ns.length) = true then some (zS (.int (g ns))) else none | none => none
    | none => none
  | _ => none
theorem bi_best {T : Tx} {nm : String} {g : List Int → Int} (hK : T.K = X.K) (hr : CallR X (.builtin nm) (rMaxI X.K g)) : BiD X T (.builtin nm) (biBest g) := by
  refine ⟨_, hr, fun xs H Q h => ?_⟩
  obtain ⟨Mo, fp, zs, z, c, zr, e, k⟩ := h
  unfold biBest at e
  split at e
  · obtain ⟨Hs, v, rfl, zx⟩ := zr.one
    rename_i x
    unfold seqD at e
    split at e
    · rename_i l e1
      split at e
      · rename_i ns e2
        split at e
        · rename_i e3
          cases e
          split at e1
          · rename_i l' e4
            cases e1
            rw [intsOf_eq e2] at e4
            obtain ⟨a, vs, rfl, h1, h2⟩ := zx.lst e4
            rw [h2.ints] at h1
            exact ⟨a, ns, rfl, .inl (.of h1), of_decide_eq_true e3, k _ _ (.refl H) (.scalar fun _ => rfl)⟩
          · rename_i l' e4
            cases e1
            rw [intsOf_eq e2] at e4
            obtain ⟨a, vs, rfl, h1, h2⟩ := zx.tup e4
            rw [h2.ints, hK] at h1
            exact ⟨a, ns, rfl, .inr (hid_sub.sqt h1), of_decide_eq_true e3, k _ _ (.refl H) (.scalar fun _ => rfl)⟩
          · cases e1
        · cases e
      · cases e
    · cases e
  · cases e
end
end DL
set_option Elab.async false
set_option linter.all false
set_option maxRecDepth 100000
set_option maxHeartbeats 4000000
/-! # The data layer, part 31: sorted(xs) of tuples and other data -/
namespace DL
open PySem PySem.Spec PyProof.Rows L2
open PySem.W (EachIs AllAlike alike dataLt dataLe)
def leD (a b : D) : Bool := !dataLt (toPy b) (toPy a)
theorem leD_eq : dataLe false toPy = leD := rfl
def neTup : D → Bool
  | .tup (_ :: _) => true
  | _ => false
def notTN : D → Bool
  | .tup _ => false
  | .non => false
  | _ => true
def sortOk (l : List D) : Bool := dOks l 60 && (l.all fun x => l.all fun y => alike (toPy x) (toPy y)) && (decide (l.length < 2) || l.all neTup || l.all notTN)
theorem toPys_map : ∀ l : List D, toPys l = l.map toPy
  | [] => by simp [toPys]
  | d :: l => by simp [toPys, toPys_map l]
theorem dOks_mem {n : Nat} : ∀ {l : List D}, dOks l n = true → ∀ d ∈ l, dOk d n = true
  | [], _, d, h => nomatch h
  | x :: l, h, d, m => by
    have h : dOk x n = true ∧ dOks l n = true := by simpa [dOks] using h
    rcases List.mem_cons.mp m with e | e
    · rw [e]; exact h.1
    · exact dOks_mem h.2 d e
/-- u is the value of the tree d, seen from F -/
def RvD (T : Tx) (F : Hp) (u : Value) (d : D) : Prop := ∃ x : V, RelV x u ∧ Rp T F d x
theorem rvD_in {T : Tx} {F : Hp} : ∀ {ds : List D} {xs : List V} {us : List Value}, Rps T F ds xs → Vals xs us → EachIs (RvD T F) us ds
  | [], xs, us, r, v => by
    have r : xs = [] := r
    subst r
    cases v
    exact .nil
  | d :: ds, xs, us, r, v => by
    obtain ⟨x, q, rfl, r1, r2⟩ := r
    cases v with
    | cons v1 v2 => exact .cons ⟨x, v1, r1⟩ (rvD_in r2 v2)
theorem rvD_out {T : Tx} {F : Hp} : ∀ {us : List Value} {ds : List D}, EachIs (RvD T F) us ds → ∃ xs, Rps T F ds xs ∧ Vals xs us
  | _, _, .nil => ⟨[], rfl, .nil⟩
  | _, _, .cons ⟨x, h1, h2⟩ t => by
    obtain ⟨xs, q1, q2⟩ := rvD_out t
    exact ⟨x :: xs, ⟨x, xs, rfl, h2, q1⟩, .cons h1 q2⟩
theorem each_mono {α β : Type} {R R' : α → β → Prop} (k : ∀ a b, R a b → R' a b) : ∀ {as : List α} {bs : List β}, EachIs R as bs → EachIs R' as bs
  | _, _, .nil => .nil
  | _, _, .cons h t => .cons (k _ _ h) (each_mono k t)
theorem each_monoM {α β : Type} {R R' : α → β → Prop} : ∀ {as : List α} {bs : List β}, EachIs R as bs → (∀ a b, b ∈ bs → R a b → R' a b) → EachIs R' as bs
  | _, _, .nil, _ => .nil
  | _, _, .cons h t, k => .cons (k _ _ List.mem_cons_self h) (each_monoM t fun a b m => k a b (List.mem_cons_of_mem _ m))
theorem each_len {α β : Type} {R : α → β → Prop} : ∀ {as : List α} {bs : List β}, EachIs R as bs → as.length = bs.length
  | _, _, .nil => rfl
  | _, _, .cons _ t => by rw [List.length_cons, List.length_cons, each_len t]
theorem short_sort {α : Type} {le : α → α → Bool} : ∀ {l : List α}, l.length < 2 → l.mergeSort le = l
  | [], _ => List.mergeSort_nil
  | [d], _ => List.mergeSort_singleton _
  | _ :: _ :: l, h => absurd h (by rw [List.length_cons, List.length_cons]; omega)
theorem short_perm {α : Type} : ∀ {l m : List α}, l.length < 2 → m.Perm l → m = l
  | [], _, _, p => List.Perm.eq_nil p
  | [v], _, _, p => List.perm_singleton.mp p
  | _ :: _ :: l, _, h, _ => absurd h (by rw [List.length_cons, List.length_cons]; omega)
def rSortD (T : Tx) (F : Hp) : List V → Hp → VK → Prop := fun vs H Q => ∃ (a : Addr) (xs : List V) (ds : List D), vs = [V.ref a] ∧ SqL T.K H a xs ∧ Sub F H ∧ Rps T F ds xs ∧ sortOk ds = true ∧
  ∀ (ys : List V) (p : Addr), Rps T F (ds.mergeSort leD) ys → H p = none → Q (.ref p) (upd H p (.lst ys))
section
variable {X : Cx} {T : Tx}
theorem cr_sortD (hK : T.K = X.K) (hu : X.A.units + 65 < cLine) : CallR X (.builtin "sorted") (fun vs H Q => ∃ F, rSortD T F vs H Q) := by
  intro pins s σ H vs us Q I r h
  obtain ⟨F, a, xs, ds, rfl, hs, sub, rp, ok, q⟩ := h
  rw [hK] at hs
  obtain ⟨its, rv, hl, hz⟩ := I.list hs
  rw [Vals.ref1 r]
  have ok' : (dOks ds 60 = true ∧ (ds.all fun x => ds.all fun y => alike (toPy x) (toPy y)) = true) ∧ (decide (ds.length < 2) || ds.all neTup || ds.all notTN) = true := by
    unfold sortOk at ok
    rw [Bool.and_eq_true, Bool.and_eq_true] at ok
    exact ok
  obtain ⟨⟨o1, o2⟩, o3⟩ := ok'
  have e1 : EachIs (RvD T F) its ds := rvD_in rp rv
  have lenI : its.length = ds.length := each_len e1
  have fin : ∀ out : List Value, out.length = ds.length → EachIs (RvD T F) out (ds.mergeSort leD) → EP X pins σ Q (.ref (s.heap.objs.size + 1)) { s with heap := sortedAll s.heap its out.toArray } := fun out lo eo => by
    obtain ⟨ys, r1, r2⟩ := rvD_out eo
    obtain ⟨ep, he'⟩ := PyProof.Rows.sortedAll_at s.heap its out.toArray
    have hlen : ys.length ≤ sizeLine := by
      rw [r2.length, lo, ← lenI, ← rv.length]
      exact hz
    exact ⟨.ref _, upd H (s.heap.objs.size + 1) (.lst ys), I.laid (t' := s.toks) (fun _ _ => PyProof.Rows.sortedAll_old) (Nat.le_succ _) ⟨hlen, out, ep, r2, he'⟩, rfl, q _ _ r1 (I.hok.fresh (Nat.le_succ _))⟩
  by_cases l2 : ds.length < 2
  · have sw : SrtO.Swo (fun _ _ : Value => false) := ⟨fun x y h => (nomatch h), fun x y z h1 h2 => rfl⟩
    have no : ¬ 2 ≤ its.length := by rw [lenI]; exact Nat.not_le_of_lt l2
    have hz2 : its.length ≤ sizeLine := by rw [← rv.length]; exact hz
    refine SrtO.sorted_ord (vs := its) (Q := EP X pins σ Q) sw hl.isList hz2 (fun h2 => absurd h2 no) fun out h1 h2 => ?_
    have es : ds.mergeSort leD = ds := short_sort l2
    have eo : out = its := short_perm (by rw [lenI]; exact l2) h2.perm
    refine fin out (by rw [eo]; exact lenI) ?_
    rw [es, eo]
    exact e1
  · have al : AllAlike (ds.map toPy) := fun x hx y hy => by
      obtain ⟨x', hx', rfl⟩ := List.mem_map.mp hx
      obtain ⟨y', hy', rfl⟩ := List.mem_map.mp hy
      exact List.all_eq_true.mp (List.all_eq_true.mp o2 x' hx') y' hy'
    have so : PySem.W.Sortable (ds.map toPy) := by
      rw [decide_eq_false l2, Bool.false_or, Bool.or_eq_true] at o3
      rcases o3 with o3 | o3
      · refine .inl fun d hd => ?_
        obtain ⟨x, hx, rfl⟩ := List.mem_map.mp hd
        have := List.all_eq_true.mp o3 x hx
        unfold neTup at this
        split at this
        · exact ⟨_, _, by simp [toPy, toPys]; exact ⟨rfl, rfl⟩⟩
        · cases this
      · refine .inr fun d hd => ?_
        obtain ⟨x, hx, rfl⟩ := List.mem_map.mp hd
        have := List.all_eq_true.mp o3 x hx
        have ok1 := dOks_mem o1 x hx
        cases x <;> simp [notTN, toPy, dOk] at this ok1 ⊢
    have er : EachIs (fun v b => ∃ as, Reads s.heap v (toPy b) as) its ds := each_monoM e1 fun v b hb ⟨x, h1, h2⟩ => Dp.reads I _ _ _ (hK ▸ dp_of sub b 60 (dOks_mem o1 b hb) h2) h1
    have hd : ∀ b, b ∈ ds → X.A.units + 2 + (toPy b).depth < cLine := fun b hb => by
      have := (dOk_lay b 60 (dOks_mem o1 b hb)).2
      generalize cLine = c at hu ⊢
      omega
    have hz2 : ds.length ≤ sizeLine := by rw [← lenI, ← rv.length]; exact hz
    exact PySem.W.sorted_data (R := RvD T F) (bs := ds) (enc := toPy) (Q := EP X pins σ Q) hl.isList e1 er al so hz2 hd fin
theorem lfs_all : ∀ {l : List D}, lfs l = true ↔ ∀ d ∈ l, lf d = true
  | [] => ⟨fun _ _ h => (nomatch h), fun _ => rfl⟩
  | d :: l => by
    show (lf d && lfs l) = true ↔ _
    rw [Bool.and_eq_true, lfs_all (l := l)]
    exact ⟨fun h x m => (List.mem_cons.mp m).elim (fun e => e ▸ h.1) (h.2 x), fun h => ⟨h d List.mem_cons_self, fun x m => h x (List.mem_cons_of_mem _ m)⟩⟩
theorem lfs_sort {l : List D} (h : lfs l = true) : lfs (l.mergeSort leD) = true := lfs_all.mpr fun d m => lfs_all.mp h d ((List.mergeSort_perm l leD).mem_iff.mp m)
def biSorted2 : List Z → Option Z
  | [x] => match x.d with
    | .lst l => match intsOf l with
      | some ns => some ⟨.lst ((sortI ns).map .int), [], [], 1⟩
      | none => if sortOk l then some ⟨.lst (l.mergeSort leD), [], if lfs l then [] else x.c, 1⟩ else none
    | _ => none
  | _ => none
theorem bi_sorted2 (hK : T.K = X.K) (hu : X.A.units + 65 < cLine) : BiD X T (.builtin "sorted") biSorted2 := by
  refine ⟨fun vs H Q => rSortedI X.K vs H Q ∨ ∃ F, rSortD T F vs H Q, fun pins s σ H vs us Q I r h => h.elim (fun h => cr_sortedI pins s σ H vs us Q I r h) fun h => cr_sortD hK hu pins s σ H vs us Q I r h, fun xs H Q h => ?_⟩
  obtain ⟨Mo, fp, zs, z, c, zr, e, k⟩ := h
  unfold biSorted2 at e
  split at e
  · obtain ⟨Hs, v, rfl, zx⟩ := zr.one
    rename_i x
    split at e
    · rename_i l e1
      split at e
      · rename_i ns e2
        cases e
        rw [intsOf_eq e2] at e1
        obtain ⟨a, vs, rfl, h1, h2⟩ := zx.lst e1
        rw [h2.ints] at h1
        refine .inl ⟨a, ns, rfl, .inl (.inl h1), fun ms r k1 k2 hr => ?_⟩
        have em : ms = sortI ns := sortI_eq k1 k2
        subst em
        exact k _ _ (.new hr) (c.newLst hr (rps_ints _))
      · obtain ⟨q, rfl⟩ := some_if e
        obtain ⟨a, vs, rfl, h1, h2⟩ := zx.lst e1
        refine .inr ⟨_, a, vs, l, rfl, .inl (.inl h1), hid_sub, h2, q, fun ys r k3 hr => ?_⟩
        refine k _ _ (.new hr) (c.newLst hr ?_)
        by_cases w : lfs l = true
        · rw [if_pos w]
          exact c.lf (lfs_sort w) k3
        · rw [if_neg w]
          exact k3
    · cases e
  · cases e
end
end DL
set_option Elab.async false
set_option linter.all false
set_option maxRecDepth 100000
set_option maxHeartbeats 4000000
/-! # The data layer, part 32: enumerate(t) of a tuple -/
namespace DL
open PySem PySem.Spec PyProof.Rows L2
/-- the iterator's object, the enumerate's object -/
abbrev enO (n : Addr) : Obj := { cls := .type "enumerate", data := .fields #[.none, .bool false, .ref n, rawInt 0, .none, .none] }
theorem meets_enT {v : Value} {ob : Obj} {HH : Heap → Prop} (B : PySem.Begins v ob HH) :
    Meets (Builtin.«enumerate.__new__» ⟨[.type "enumerate", v], []⟩) (fun _ RR sh => HH sh.heap ∧ RR (.ok (.ret (.ref (sh.heap.push ob).objs.size))) { sh with heap := (sh.heap.push ob).push (enO sh.heap.objs.size) }) :=
  .of_wp fun P' W' A' RR sh hh => by
    obtain ⟨hp0, gn, ds, tk0, os0⟩ := sh
    obtain ⟨hB, hh⟩ := hh
    have sb := sub_enumerate
    have itv : ∀ {A2 : Around} {E2 : Value → Shared → Prop} {Q2 : Value → Shared → Prop}, Q2 (.ref hp0.objs.size) ⟨hp0.push ob, gn, ds, tk0, os0⟩ → wpAny (model P' W') A2 (pyIter v) Q2 E2 ⟨hp0, gn, ds, tk0, os0⟩ :=
      fun q2 => B.iter P' W' _ _ ⟨hp0, gn, ds, tk0, os0⟩ _ hB q2
    wp_walk using itv
    refine wpAny_stack_any fun st0 => wpAny_pure ?_
    split
    · rename_i cl0 _ _ _ _ _
      cases (cl0 == Value.type "enumerate") <;> (wp_walk using itv) <;> exact ⟨_, rfl, hh⟩
    · wp_walk using itv
      exact ⟨_, rfl, hh⟩
section
variable {prog : Program} {w : World} {A : Around} {E : Value → Shared → Prop} {s : Shared}
theorem call_enT {t0 : Addr} {its : Array Value} {Q : Value → Shared → Prop} (hT : s.heap.IsTuple t0 its)
    (k : ∀ g : Heap, IsEnum g (s.heap.objs.size + 1) s.heap.objs.size 0 .none → g.IsTupleIter s.heap.objs.size t0 0 → (∀ c o, s.heap.get? c = some o → g.get? c = some o) → Q (.ref (s.heap.objs.size + 1)) { s with heap := g }) :
    wpAny (model prog w) A (call (.type "enumerate") [.ref t0]) Q E s := by
  refine callType_new F.called_enumerate (by decide) (F.typeCall_enumerate_1 _) (F.newCall_enumerate_1 _) (fun y => F.args_object_init_2 y _) F.entry_enumerate_new (meets_enT (PySem.begins_tuple t0 its)) ⟨hT, ?_⟩
  have sz1 : (s.heap.push { cls := .type "tuple_iterator", data := .fields #[.ref t0, .int 0 0] }).objs.size = s.heap.objs.size + 1 := Heap.size_push ..
  show _ ∧ _
  rw [sz1]
  have en : IsEnum ((s.heap.push { cls := .type "tuple_iterator", data := .fields #[.ref t0, .int 0 0] }).push (enO s.heap.objs.size)) (s.heap.objs.size + 1) s.heap.objs.size 0 .none := by
    have z := Heap.get?_push_size (s.heap.push { cls := .type "tuple_iterator", data := .fields #[.ref t0, .int 0 0] }) (o := enO s.heap.objs.size) rfl
    rw [sz1] at z
    exact z
  exact ⟨⟨_, en, rfl⟩, k _ en ⟨_, Heap.get?_push_of_some _ (Heap.get?_push_size _ rfl), rfl, rfl⟩ fun c o e => Heap.get?_push_of_some _ (Heap.get?_push_of_some _ e)⟩
end
/-- the tuple at a as it stands at each turn, each item in a new pair -/
def IteT (K : PySem.W.Frag) (a : Addr) : It :=
  ⟨fun i H => ∃ (xs : List V) (x : V), SqT K H a xs ∧ xs[i]? = some x, fun i H v G => ∃ T x, v = .ref T ∧ H T = none ∧ G = upd H T (.tup [.int (i : Nat), x]) ∧ ∀ xs, SqT K H a xs → xs[i]? = some x, fun i H => ∃ xs : List V, SqT K H a xs ∧ xs.length ≤ i⟩
theorem turn_enT {P : Program} {w : World} {K : PySem.W.Frag} {elts : List Expr} {kk : Nat} {tpos : Pos} (a en it : Addr) (hna : a ≠ it) (hea : en ≠ a) :
    Turn P w K (.Tuple elts kk tpos) (IteT K a) [en, it] en (fun i h => (∃ old, IsEnum h en it ((i : Nat) : Int) old) ∧ h.IsTupleIter it a i ∧ en ≠ it) where
  mem := by simp
  obj := fun i h q b hb => by
    obtain ⟨⟨old, q1⟩, ⟨o, q2, q3, q4⟩, _⟩ := q
    rcases (by simpa using hb : b = en ∨ b = it) with z | z
    · subst z
      exact ⟨_, q1, fun v y => nomatch y⟩
    · subst z
      exact ⟨o, q2, fun v y => by rw [q4] at y; cases y⟩
  keep := fun i h g q k => by
    obtain ⟨⟨old, q1⟩, q2, q3⟩ := q
    exact ⟨⟨old, k en (by simp) _ q1⟩, q2.at fun o y => k it (by simp) o y, q3⟩
  item := by
    intro X e1 e2 e3 hc i pins s σ H E I hf q hg
    subst e1 e2 e3
    obtain ⟨⟨old, q1⟩, q2, q3⟩ := q
    obtain ⟨xs, x, hx1, hx2⟩ := hg
    obtain ⟨its, rv, tp, hz⟩ := I.tuple hx1
    obtain ⟨u, hu, ru⟩ := rv.get hx2
    have le1 : en < s.heap.objs.size := Heap.lt_size q1
    have le2 : it < s.heap.objs.size := by
      obtain ⟨_, y, _⟩ := q2
      exact Heap.lt_size y
    have hi : i < its.toArray.size := by
      obtain ⟨y, _⟩ := List.getElem?_eq_some_iff.mp hu
      simpa using y
    refine PySem.wpAny_pyNext_enum_itemC (PySem.Draws.tuple (prog := X.prog) (w := X.w) (A := X.A.in1) (I.ok.hd hc) it a hna its.toArray) q1 ⟨q2, tp⟩ hi q3 (by simp; exact ⟨q3, hea⟩) fun y g tk py ho st hT hsz hk => ?_
    have ey : u = y := by
      have : its.toArray[i]? = some u := by simpa using hu
      rw [this] at py
      exact Option.some.inj py
    subst ey
    refine ⟨_, rfl, wpAny_letOwnedTupleGo_enum (s := { s with heap := g, toks := tk + 1 }) ho fun g2 he2 sb => ?_⟩
    have hT2 : g2.get? s.heap.objs.size = some { cls := .type "tuple", data := .seq #[.int i tk, u] } := (sb.2 _ (Nat.ne_of_gt le1)).trans hT
    have nw : ObjOk X.prog X.w (upd H s.heap.objs.size (.tup [.int (i : Nat), x])) g2 s.heap.objs.size (.tup [.int (i : Nat), x]) :=
      ⟨by show 2 ≤ sizeLine; decide, [.int i tk, u], .cons ⟨_, rfl⟩ (.cons ru .nil), ⟨_, hT2, rfl, _, rfl⟩⟩
    have J : Inv X pins σ (upd H s.heap.objs.size (.tup [.int (i : Nat), x])) { s with heap := g2, toks := tk + 1 } :=
      I.turnedNew (ch := [en, it]) (fun b ob hb y => (sb.2 b (fun z => hb (by simp [z]))).trans (hk b ob (fun z => hb (by simp [z])) (fun z => hb (by simp [z])) y)) hf (Nat.le_refl _) nw
    refine ⟨.ref s.heap.objs.size, _, J, rfl, ⟨_, x, rfl, I.hok.fresh (Nat.le_refl _), rfl, fun ys hy => by rw [I.tuple_inj hy hx1]; exact hx2⟩, ⟨⟨u, ?_⟩, st.1.at fun o y => (sb.2 it (Ne.symm q3)).trans y, q3⟩, fun b hb => ?_⟩
    · have z1 : ((i + 1 : Nat) : Int) = (i : Int) + 1 := by omega
      rw [z1]
      exact he2
    · have lb : b < s.heap.objs.size := by
        rcases (by simpa using hb : b = en ∨ b = it) with z | z
        · rw [z]; exact le1
        · rw [z]; exact le2
      rw [upd_ne (Nat.ne_of_lt lb)]
      exact (hf b hb).1
  done := by
    intro X e1 e2 e3 hc i pins s σ H E I hf q hg
    subst e1 e2 e3
    obtain ⟨⟨old, q1⟩, q2, q3⟩ := q
    obtain ⟨xs, hx1, hx2⟩ := hg
    obtain ⟨its, rv, tp, hz⟩ := I.tuple hx1
    obtain ⟨f0, f1, f2, f3, f4, f5⟩ := hf it (by simp)
    have ll := rv.length
    have no : its.toArray[i]? = none := by simp; omega
    have DD : Draws X.prog X.w X.A.in1 it [it, a] i (fun _ _ => False) (fun j h => j = i ∧ h.IsTupleIter it a i ∧ h.IsTuple a its.toArray) :=
      ⟨fun j h st => let ⟨o, ho, _⟩ := st.2.1; ⟨o, ho⟩, fun j h g st k => ⟨st.1, st.2.1.at fun o y => k it (by simp) o y, st.2.2.at fun o y => k a (by simp) o y⟩,
        fun j sh Q2 E2 lt st => absurd st.1 (Nat.ne_of_lt lt), fun sh Q2 E2 st hE => wpAny_nextOf_tuple_end (I.ok.hd hc) st.2.1 st.2.2 no hE⟩
    exact PySem.wpAny_pyNext_enum_endD DD q1 ⟨rfl, q2, tp⟩ fun g eb => ⟨rfl, I.turned (t' := s.toks) (fun b o hb y => eb b o hb y) f0 f1 f3 f4 f5⟩
  self := fun A i s Q E q h => by
    obtain ⟨⟨_, q1⟩, _⟩ := q
    exact wpAny_pyIter_enum q1 h
def iEnum2 (K : PySem.W.Frag) (ta : TA) : TI := fun σ H R => ta σ H fun vs G => (∃ a xs, vs = [.ref a] ∧ SqL K G a xs ∧ R (Ite K a) G) ∨ ∃ a xs, vs = [.ref a] ∧ SqT K G a xs ∧ R (IteT K a) G
theorem pi_enum2 {X : Cx} {e : Expr} {ta : TA} {p pos tpos : Pos} {elts : List Expr} {kk : Nat} (hg : Gl X "enumerate") (hm : X.mg "enumerate" = none) (ha : PA X [e] ta) (hs : starEach [e] X.env = [(false, eval e X.env)] := by rfl) :
    PI X (.Tuple elts kk tpos) (.Call (.Name "enumerate" p) [e] [] pos) (iEnum2 X.K ta) := by
  refine ⟨fun pins s σ H R I h => Call_ (ld_blt I hg hm boot_enumerate (PyProof.Rows.callWith_type1 (thn (ha.run pos pins s σ H _ I h) fun us s2 ⟨vs, G, J, r, q⟩ => ?_) hs rfl))⟩
  have two : ∀ (b : Addr), b = s2.heap.objs.size + 1 ∨ b = s2.heap.objs.size → s2.heap.objs.size ≤ b := fun b hb => hb.elim (fun z => by rw [z]; exact Nat.le_succ _) fun z => by rw [z]; exact Nat.le_refl _
  rcases q with ⟨a, xs, rfl, hx, q⟩ | ⟨a, xs, rfl, hx, q⟩
  · rw [Vals.ref1 r]
    obtain ⟨its, rv, hl, _⟩ := J.list hx
    refine call_enumerate_list hl.isList fun g he hit hsz hk => wpAny_pyIter_enum he ?_
    refine ⟨s2.heap.objs.size + 1, [s2.heap.objs.size + 1, s2.heap.objs.size], _, _, G, rfl, J.kept (t' := s2.toks) hk, turn_enum a (s2.heap.objs.size + 1) s2.heap.objs.size, ⟨⟨.none, he⟩, hit, Nat.succ_ne_self _⟩, fun b hb => ?_, q⟩
    have l := two b (by simpa using hb)
    exact J.fpOk l (J.hok.fresh l)
  · rw [Vals.ref1 r]
    obtain ⟨its, rv, hl, _⟩ := J.tuple hx
    have la : a < s2.heap.objs.size := by
      obtain ⟨o, e1, _⟩ := hl
      exact Heap.lt_size e1
    refine call_enT hl fun g he hit hk => wpAny_pyIter_enum he ?_
    refine ⟨s2.heap.objs.size + 1, [s2.heap.objs.size + 1, s2.heap.objs.size], _, _, G, rfl, J.kept (t' := s2.toks) hk, turn_enT a (s2.heap.objs.size + 1) s2.heap.objs.size (Nat.ne_of_lt la) (Nat.ne_of_gt (Nat.lt_succ_of_lt la)), ⟨⟨.none, he⟩, hit, Nat.succ_ne_self _⟩, fun b hb => ?_, q⟩
    have l := two b (by simpa using hb)
    exact J.fpOk l (J.hok.fresh l)
theorem JOk.enumT {T : Tx} {Mo : Addr → Prop} {B : Hp} {K : PySem.W.Frag} {a : Addr} {ds : List D} {vs : List V} (e : SqT K B a vs) (r : Rps T (hid Mo B) ds vs) : JOk T B Mo (IteT K a) (enumD 0 ds) := by
  have q : ∀ H, Sub B H → SqT K H a vs := fun H s => s.sqt e
  refine ⟨fun i H s h => ?_, fun i H s h => ⟨vs, q H s, by rw [← r.len]; rw [enumD_len] at h; exact h⟩, fun i H x H' s y => ?_⟩
  · rw [enumD_len] at h
    obtain ⟨v, e1, _⟩ := r.at_ (List.getElem?_eq_getElem h)
    exact ⟨vs, v, q H s, e1⟩
  · obtain ⟨t, w, rfl, nt, eH, y⟩ := y
    refine ⟨by rw [eH]; exact .new nt, fun d hd G g k => ?_⟩
    obtain ⟨d', e1, e2⟩ := enumD_at hd
    obtain ⟨v, e3, rv⟩ := r.at_ e1
    rw [y vs (q _ s)] at e3
    cases e3
    rw [e2]
    refine new_tup nt eH k ⟨_, _, rfl, ?_, _, _, rfl, Rp.sub g d' rv, rfl⟩
    rw [Nat.zero_add]
    rfl
def opEnum2 : List Z → Option (List D × List Nat)
  | [a] => match a.d with | .lst ds => some (enumD 0 ds, a.lo) | .tup ds => some (enumD 0 ds, a.lo) | _ => none
  | _ => none
section
variable {X : Cx} {T : Tx} {Wx : WX} {p pos : Pos} {a : Expr} {g : M (List Z)}
theorem di_enum2 {elts : List Expr} {kk : Nat} {tpos : Pos} (hK : T.K = X.K) (ha : DA X T Wx [a] g) (hg : Gl X "enumerate") (hm : X.mg "enumerate" = none) (hs : starEach [a] X.env = [(false, eval a X.env)] := by rfl) : DI X T Wx (.Tuple elts kk tpos) (.Call (.Name "enumerate" p) [a] [] pos) (iR opEnum2 g) :=
  (pi_enum2 hg hm ha hs).mono fun σ H Q h => up_iR h fun H0 Mo fp ρ p zs x vs H1 s zrs e q => by
    unfold opEnum2 at e
    split at e
    · obtain ⟨Hs, v, rfl, zr⟩ := zrs.one
      have r := rp_see s zr fun i h => h
      split at e
      · rename_i ds e1
        cases e
        rw [e1] at r
        obtain ⟨a, vs, rfl, h1, h2⟩ := r
        exact .inl ⟨a, vs, rfl, .inl (.inl (hid_sub _ _ (hid_sub _ _ h1))), q _ (.enum (hid_some' h1) h2)⟩
      · rename_i ds e1
        cases e
        rw [e1] at r
        obtain ⟨a, vs, rfl, h1, h2⟩ := r
        have h1 := hid_sub.sqt h1
        exact .inr ⟨a, vs, rfl, hK ▸ hid_sub.sqt h1, q _ (.enumT (hK ▸ h1) h2)⟩
      · cases e
    · cases e
end
end DL
set_option Elab.async false
set_option linter.all false
set_option maxRecDepth 100000
set_option maxHeartbeats 4000000
/-! # The data layer, part 33: targets for tuples and lists; mirrors made finer -/
namespace DL
open PySem PySem.Spec PyProof.Rows L2
def tmT2 (n : Nat) (t : TMs) : TM := fun d ρ => match d with
  | .tup ds => if ds.length = n then t ds ρ else none
  | .lst ds => if ds.length = n then t ds ρ else none
  | _ => none
section
variable {X : Cx} {T : Tx} {Wx : WX} {pos : Pos}
theorem dg_tup2 {es : List Expr} {k : Nat} {t : TMs} {n : Nat} {js : List Nat} (hc : X.calm = true) (hK : T.K = X.K) (h : DGs X T es js t) (hn : (assignEach es X.env).length = n := by rfl) (hst : (assignEach es X.env).findIdx? (·.1) = none := by rfl) : DG X T (.Tuple es k pos) js (tmT2 n t) := by
  have A : DG X T (.Tuple es k pos) js (tmT n t) := dg_tup hc hK h hn hst
  have B : DG X T (.Tuple es k pos) js (tmL n t) := dg_lst hc h hn hst
  refine ⟨fun pins s σ H v u Q I r q => ?_⟩
  obtain ⟨H0, Mo, fp, ρ, p, d, ρ', s1, r1, e, q1⟩ := q
  cases d with
  | tup ds => exact A.run pins s σ H v u Q I r ⟨H0, Mo, fp, ρ, p, .tup ds, ρ', s1, r1, e, q1⟩
  | lst ds => exact B.run pins s σ H v u Q I r ⟨H0, Mo, fp, ρ, p, .lst ds, ρ', s1, r1, e, q1⟩
  | _ => cases e
/-- what says less may stand for what says more -/
theorem DE.fine {e : Expr} {m m' : M Z} (h : DE X T Wx e m) (k : ∀ ρ p, m' ρ p = .bad ∨ m ρ p = m' ρ p) : DE X T Wx e m' := by
  refine h.mono fun σ H Q q => ?_
  obtain ⟨H0, Mo, fp, ρ, p, s, q⟩ := q
  refine ⟨H0, Mo, fp, ρ, p, s, ?_⟩
  rcases k ρ p with z | z
  · rw [z] at q
    exact q.elim
  · rw [z]
    exact q
theorem DT.fine {e : Expr} {m m' : M Z} (h : DT X T Wx e m) (k : ∀ ρ p, m' ρ p = .bad ∨ m ρ p = m' ρ p) : DT X T Wx e m' := by
  refine h.mono fun σ H Q q => ?_
  obtain ⟨H0, Mo, fp, ρ, p, s, q⟩ := q
  refine ⟨H0, Mo, fp, ρ, p, s, ?_⟩
  rcases k ρ p with z | z
  · rw [z] at q
    exact q.elim
  · rw [z]
    exact q
end
end DL
set_option Elab.async false
set_option linter.all false
set_option maxRecDepth 100000
set_option maxHeartbeats 4000000
/-! # The data layer, part 34: closures called within a comprehension: its block knows the frame that it stands in -/
namespace DL
open PySem PySem.Spec PyProof.Rows L2
section
variable {X : Cx}
/-- as L2.lc_core, the block's parts being shown just where the frame stands -/
theorem lc_frame {pins : List (Addr × Obj)} {s : Shared} {σ : L2.St} {H : Hp} {Q : VK} {elt tg iter : Expr} {ifs : List Expr} {scope : Scope} {own : List (Str × Nat)} {pos pos' : Pos} {wi : TI} {g : TG} {tt : TT} {te : TE} {use : Option (Value → Sem Unit)} {Qf : Value → Shared → Prop}
    (calm : X.calm = true) (nod : X.N.Nodup) (I0 : Inv X pins σ H s) (dI : PI X tg iter wi) (bok : BlkOk X.N X.env.scope scope own)
    (dG : ∀ (s : Shared) (H : Hp) (C : Addr) (cl : List (Str × Addr)) (fp : List Addr), PG (X.blk s H scope (compEnvC scope cl C X.env) fp) tg g)
    (dT : ∀ (s : Shared) (H : Hp) (C : Addr) (cl : List (Str × Addr)) (fp : List Addr), PTs (X.blk s H scope (compEnvC scope cl C X.env) fp) ifs tt)
    (dE : ∀ (s : Shared) (H : Hp) (C : Addr) (cl : List (Str × Addr)) (fp : List Addr), Inv X pins σ H s → (∀ b ∈ fp, FpOk X pins H b) → PE (X.blk s H scope (compEnvC scope cl C X.env) fp) elt te) (fold : ∀ x, foldedSetIterable iter X.env x = pure x)
    (rd : tLc wi g tt te (own.map (·.2)) σ H Q)
    (after : ∀ D C s' m G, Inv X pins σ G s' → Q (.ref D) G → s'.heap.Ns C m → FpOk X pins G C → compPost (model X.prog X.w) X.A X.xe use Qf (.ref D) C (.ok .next) s') :
    wpAny (model X.prog X.w) X.A (comprehension (.ListComp elt [⟨tg, iter, ifs, 0⟩] scope pos) scope X.env pos' (newList []) false (eval iter X.env) use) Qf X.xe s := by
  have caught : ∀ y ∈ scope.names, y.2 = .free → ∃ c, X.env.cells.lookup y.1 = some c := fun y m e => I0.ok.has _ ((bok.free y m e).elim .inl .inr)
  refine wpAny_comprehension_free (use := use) rfl fold (closure_ok caught) bok.kind (fun y m e => by rw [bok.uniq y m, e]) (thn (dI.run pins s σ H _ I0 rd) fun xv sa hx => thn hx fun itv sb hb => ?_)
  obtain ⟨it, fp, tn, J, Hb, rfl, Ib, TN, tb, fb, q⟩ := hb
  refine wpAny_newObj_type (newEnv_comp ?_) (by show 0 ≤ sizeLine; decide)
  obtain ⟨L, eL⟩ : ∃ L, L = sb.heap.objs.size := ⟨_, rfl⟩
  have nL : Hb L = none := Ib.hok.fresh (by rw [eL]; exact Nat.le_refl _)
  obtain ⟨W, ⟨m0, w0⟩, turn⟩ := q L nL
  rw [← eL]
  obtain ⟨sc, esc⟩ : ∃ sc : Shared, sc = { sb with heap := sb.heap.push { cls := .type "list", data := .seq ([] : List Value).toArray } } := ⟨_, rfl⟩
  have hsc : sc.heap = sb.heap.push { cls := .type "list", data := .seq ([] : List Value).toArray } := by rw [esc]
  have Ic : Inv X pins σ (upd Hb L (.lst [])) sc := by
    rw [esc]
    refine Ib.laid (t' := sb.toks) (fun b o e => Heap.get?_push_of_some _ e) (by rw [eL]; exact Nat.le_refl _) ⟨Nat.zero_le _, [], 0, .nil, ?_⟩
    rw [eL]
    exact Heap.get?_push_size _ rfl
  have small : ∀ b ∈ fp, b < sb.heap.objs.size := fun b hb => by
    obtain ⟨o, e, _⟩ := TN.obj _ _ tb b hb
    exact Heap.lt_size e
  have fc : ∀ b ∈ fp, FpOk X pins (upd Hb L (.lst [])) b ∧ b < sc.heap.objs.size := fun b hb => by
    have lt := small b hb
    refine ⟨⟨?_, (fb b hb).2⟩, by rw [hsc, Heap.size_push]; exact Nat.lt_succ_of_lt lt⟩
    rw [upd_ne (by rw [eL]; exact Nat.ne_of_lt lt)]
    exact (fb b hb).1
  have tc : tn 0 sc.heap := TN.keep _ _ _ tb fun b _ o e => by
    rw [hsc]
    exact Heap.get?_push_of_some _ e
  have Id := block_start Ic bok nod fc
  have ge := dG sc (upd Hb L (.lst [])) sc.heap.objs.size (cellsFrom (sc.heap.objs.size + 1) scope.names (cloFrom X.env.cells scope.names [])) fp
  have ce := dT sc (upd Hb L (.lst [])) sc.heap.objs.size (cellsFrom (sc.heap.objs.size + 1) scope.names (cloFrom X.env.cells scope.names [])) fp
  have ee := dE sc (upd Hb L (.lst [])) sc.heap.objs.size (cellsFrom (sc.heap.objs.size + 1) scope.names (cloFrom X.env.cells scope.names [])) fp Ic fun b hb => (fc b hb).1
  rw [← esc]
  show codeAny _ _ (.compStart (.ListComp elt [⟨tg, iter, ifs, 0⟩] scope pos) 0 (.ref it) (.ref L) (compEnvC scope (cellsFrom (sc.heap.objs.size + 1) scope.names (cloFrom X.env.cells scope.names [])) sc.heap.objs.size X.env)) (compPost (model X.prog X.w) X.A X.xe use Qf (.ref L) sc.heap.objs.size) { sc with heap := pushCells (sc.heap.push { cls := .type "dict", data := .dict #[] }) scope.names }
  have nfp : ∀ b ∈ fp, (upd Hb L (.lst [])) b = none := fun b hb => (fc b hb).1.1
  generalize hen : compEnvC scope (cellsFrom (sc.heap.objs.size + 1) scope.names (cloFrom X.env.cells scope.names [])) sc.heap.objs.size X.env = en at Id ge ce ee ⊢
  have enL : en.locals = sc.heap.objs.size := by rw [← hen] <;> rfl
  generalize upd Hb L (.lst []) = Hc at Ic Id ge ce ee w0 nfp fc
  generalize hsd : ({ sc with heap := pushCells (sc.heap.push { cls := .type "dict", data := .dict #[] }) scope.names } : Shared) = sd at Id ⊢
  have td : tn 0 sd.heap := TN.keep _ _ _ tc fun b _ o e => by
    rw [← hsd]
    exact pushCells_keeps _ _ _ _ (Heap.get?_push_of_some _ e)
  have still : ∀ {σ' : L2.St} {G : Hp} {s' : Shared}, Inv (X.blk sc Hc scope en fp) [] σ' G s' → (∀ b ∈ fp, G b = none) → ∀ b ∈ fp, FpOk (X.blk sc Hc scope en fp) [] G b := fun I' n b hb =>
    ⟨n b hb, (I'.ok.exf b hb).1, I'.ok.exfs b hb, .inl hb, fun x c e => (I'.ok.exf b hb).2 x c e, fun p hp => nomatch (show p ∈ ([] : List (Addr × Obj)) ++ [] from hp)⟩
  have loop : codeAny (model X.prog X.w) X.A (.compLoop (.ListComp elt [⟨tg, iter, ifs, 0⟩] scope pos) 0 (.ref it) (.ref L) en) (compPost (model X.prog X.w) X.A X.xe use Qf (.ref L) sc.heap.objs.size) sd := by
    refine compLoop_any (fun n z => ∃ i G, Inv (X.blk sc Hc scope en fp) [] (wipe σ (own.map (·.2))) G z ∧ tn i z.heap ∧ (∀ b ∈ fp, G b = none) ∧ W i n G) ?_ m0 ⟨0, Hc, Id, td, nfp, w0⟩
    rintro n se ⟨i, He, Ie, te', ne, we⟩
    rcases turn i n He we with ⟨stop, qq⟩ | ⟨go, Nx, hNx, step⟩
    · refine thnF (TN.done (X.blk sc Hc scope en fp) rfl rfl rfl calm i [] se _ He (fun _ _ => False) Ie (still Ie ne) te' stop) fun r sf ⟨hr, If⟩ => ?_
      subst hr
      have Ig : Inv X pins σ He sf := Ic.call' (ch := fp) If.os If.base If.hok If.bare fun b hb => ⟨(fc b hb).1.2.2.2.1, (fc b hb).1.2.1, (fc b hb).1.2.2.2.2.1, (fc b hb).1.2.2.2.2.2⟩
      have nC : He sc.heap.objs.size = none := by
        rw [← enL]
        exact If.free
      obtain ⟨m, hn, _⟩ := If.loc
      have hn : sf.heap.Ns en.locals m := hn
      rw [enL] at hn
      exact after L sc.heap.objs.size sf m He Ig qq hn (Ic.fpOk (Nat.le_refl _) nC)
    · refine thnF (TN.item (X.blk sc Hc scope en fp) rfl rfl rfl calm i [] se _ He (fun _ _ => False) Ie (still Ie ne) te' go) fun r sf ⟨u, hr, hf⟩ => ?_
      subst hr
      refine thnF hf fun _ sg ⟨x, Hg, Ig, rg, yg, tg', ng⟩ => ?_
      refine thnF (ge.run _ sg _ Hg x u _ (Ig.pinned (still Ig ng) (TN.obj _ _ tg')) rg (step x Hg yg)) fun _ sh ⟨σh, Hh, Ih, wh, qh⟩ => ?_
      refine thnF (ce.run _ sh σh Hh _ Ih qh) fun b si ⟨Hi, Ii, qi⟩ => ?_
      have close : ∀ {z : Shared} {G : Hp}, Inv (X.blk sc Hc scope en fp) ([] ++ pinsAt fp sg.heap) σh G z → Nx G → ∃ m, m < n ∧ ∃ i G, Inv (X.blk sc Hc scope en fp) [] (wipe σ (own.map (·.2))) G z ∧ tn i z.heap ∧ (∀ b ∈ fp, G b = none) ∧ W i m G := fun {z G} Iz nx => by
        obtain ⟨m', lt, w'⟩ := hNx G nx
        have pinned : ∀ b ∈ fp, ∀ o, sg.heap.get? b = some o → z.heap.get? b = some o ∧ G b = none := fun b hb o e => by
          have y := Iz.pin (b, o) (List.mem_append_right _ (List.mem_append_right _ (mem_pinsAt hb e)))
          exact ⟨y.1, y.2.1⟩
        refine ⟨m', lt, i + 1, G, (Iz.unpinned (pins := [])).weak (by rw [← wh, wipe_length]) (fun j v e => ?_), TN.keep _ _ _ tg' fun b hb o e => (pinned b hb o e).1, fun b hb => ?_, w'⟩
        · rw [← wh] at e
          exact (wipe_some e).1
        · obtain ⟨o, e, _⟩ := TN.obj _ _ tg' b hb
          exact (pinned b hb o e).2
      cases b with
      | false => exact close Ii (by simpa using qi)
      | true =>
        have qi : te σh Hi fun y G => ∃ acc, G L = some (.lst acc) ∧ acc.length < sizeLine ∧ Nx (upd G L (.lst (acc ++ [y]))) := by simpa using qi
        rw [if_pos rfl]
        refine thnF (ee.run _ si σh Hi _ Ii qi) fun v sj ⟨y, Hj, Ij, rj, acc, hL, lt, nx⟩ => ?_
        exact app_ok (X := X.blk sc Hc scope en fp) Ij hL lt rj fun sk Ik => close Ik nx
  exact codeAny_compStart_list loop (TN.self X.A 0 _ _ _ td loop)
end
/-! ### the readings go along -/
section
variable {T : Tx} {Wx : WX}
theorem IPost.imp2 {H0 H : Hp} {Mo : Addr → Prop} {fp : Nat → List Addr} {r : R (List D × List Nat)} {Q Q' : It → Hp → Prop} (k : ∀ J G, Q J G → Q' J G) (h : IPost T Wx H0 Mo fp H r Q) : IPost T Wx H0 Mo fp H r Q' := by
  cases r with
  | ok x p => exact fun J G g x j => k _ _ (h J G g x j)
  | exc c fs p => exact h
  | bad => exact h
theorem upI_imp {m : IM} {σ : L2.St} {H : Hp} {Q Q' : It → Hp → Prop} (k : ∀ J G, Q J G → Q' J G) (h : upI T Wx m σ H Q) : upI T Wx m σ H Q' := by
  obtain ⟨H0, Mo, fp, ρ, p, s, h⟩ := h
  exact ⟨H0, Mo, fp, ρ, p, s, h.imp2 k⟩
theorem upG_imp {js : List Nat} {tm : TM} {v : V} {σ : L2.St} {H : Hp} {Q Q' : L2.St → Hp → Prop} (k : ∀ σ G, Q σ G → Q' σ G) (h : upG T js tm v σ H Q) : upG T js tm v σ H Q' := by
  obtain ⟨H0, Mo, fp, ρ, p, d, ρ', s, r, e, q⟩ := h
  exact ⟨H0, Mo, fp, ρ, p, d, ρ', s, r, e, fun fp' σ' s' a b c => k _ _ (q fp' σ' s' a b c)⟩
theorem upT_imp {m : M Z} {σ : L2.St} {H : Hp} {Q Q' : Bool → Hp → Prop} (k : ∀ b G, Q b G → Q' b G) (h : upT T Wx m σ H Q) : upT T Wx m σ H Q' := by
  obtain ⟨H0, Mo, fp, ρ, p, s, h⟩ := h
  exact ⟨H0, Mo, fp, ρ, p, s, h.imp fun z p v G _ _ _ _ q => q.imp fun b q => ⟨q.1, k _ _ q.2⟩⟩
theorem tLc_wipe {m : IM} {js : List Nat} {tm : TM} {t : M Z} {te : TE} {vs : List Nat} {σ : L2.St} {H : Hp} {Q : VK} (h : tLc (upI T Wx m) (upG T js tm) (upT T WxF t) te vs σ H Q) :
    tLc (upI T Wx m) (upG T js tm) (upT T WxF t) (fun σ' G K => wipe σ' vs = wipe σ vs ∧ te σ' G K) vs σ H Q := by
  refine upI_imp (fun J G h L nL => ?_) h
  obtain ⟨W, w0, turn⟩ := h L nL
  refine ⟨W, w0, fun i m G w => (turn i m G w).imp id fun ⟨go, Nx, hN, st⟩ => ⟨go, Nx, hN, fun x G' y => upG_imp (fun σ2 H2 q => ⟨q.1, upT_imp (fun b H3 z => ?_) q.2⟩) (st x G' y)⟩⟩
  cases b with
  | false => exact z
  | true =>
    rw [if_pos rfl] at z ⊢
    exact ⟨q.1, z⟩
end
/-- no name of the block is caught in the frame -/
def ownC (scope : Scope) (own : List (Str × Nat)) : Bool := own.all fun p => match scope.names.lookup p.1 with | some .cell => false | some .free => false | _ => true
section
variable {X : Cx} {k j : Nat} {f : Addr} {fm : TH → FM} {thk : Env → TH} {th : TH} {x : Str} {p pos : Pos} {e : Expr} {es : List Expr} {g : M (List Z)} {T0 T : Tx} {Wx : WX} {scope : Scope} {own : List (Str × Nat)}
theorem pe_callLB {pins0 : List (Addr × Obj)} {σ0 : L2.St} {s0 : Shared} {K0 : Hp} {en : PySem.Env} {bf : List Addr} (J0 : Inv X pins0 σ0 K0 s0) (J1 : ∀ b ∈ bf, FpOk X pins0 K0 b) (nod : X.N.Nodup) (bok : BlkOk X.N X.env.scope scope own) (oc : ownC X.env.scope own = true)
    (b : BH T0 T (X.blk s0 K0 scope en bf) j Wx th) (hfn : ∀ y, X.fn y = true) (F : FnG X.prog X.w X.K X.mg X.base k f (spD X.prog X.w X.K X.mg X.base T0 fm)) (hj : k ≤ j) (hg : Gl (X.blk s0 K0 scope en bf) x) (hm : X.mg x = some (.ref f)) (hk : PySem.W.keepIn X.K (.ref f) = true) (ha : DA (X.blk s0 K0 scope en bf) T Wx (e :: es) g)
    (lams : ∀ (T' : Tx) (ρ : Env) (σ : L2.St) (n : Nat), TK T0 T' → T'.K = X.K → T'.cl = T.cl → T'.cq = T.cq → CapR X T' ρ σ → LamRun X.prog X.w X.K X.mg X.base T' n (thk ρ n))
    (hdb : (x == ("__debug__" : Str)) = false := by decide) (he : starEach (e :: es) en = (false, eval e en) :: starEach es en := by rfl) (hpl : (backTo pos (starEach es en)).any (·.1) = false := by rfl) :
    PE (X.blk s0 K0 scope en bf) (.Call (.Name x p) (e :: es) [] pos) (fun σ' G Q => wipe σ' (own.map (·.2)) = wipe σ0 (own.map (·.2)) ∧ upE T Wx (eCallL thk fm g) σ' G Q) := by
  refine ⟨fun pins s σ H Q I h => wpAny_Call_Name_kw (ld_glob I hg hm ?_ hdb)⟩
  obtain ⟨hwi, H0, Mo, fp, ρ, pp, sr, h⟩ := h
  unfold eCallL at h
  have args : upA T Wx g σ H fun vs H1 => ∃ zs p1 y p2, SRep T H0 Mo fp ρ p1 σ H1 ∧ ZReps T Mo fp H1 zs vs ∧ Gr T H H1 ∧ fm (thk ρ) (zs.map (·.d)) p1 = .ok y p2 ∧ ∀ v H', Gr T H H' → PenRep T Mo p2 H' → ZRep T Mo fp H ⟨y.1, zs.flatMap (·.lo), zs.flatMap (·.lo), y.2⟩ v H' → Q v H' := by
    refine ⟨H0, Mo, fp, ρ, pp, sr, ?_⟩
    cases e1 : g ρ pp with
    | bad =>
      rw [e1] at h
      exact h.elim
    | exc c fs p1 =>
      rw [e1] at h
      exact h
    | ok zs p1 =>
      rw [e1] at h
      have h : EPost T Wx H0 Mo fp H H (match fm (thk ρ) (zs.map (·.d)) p1 with | .ok x p2 => .ok ⟨x.1, zs.flatMap (·.lo), zs.flatMap (·.lo), x.2⟩ p2 | _ => .bad) fun _ _ v H' => Q v H' := h
      intro vs H1 g1 x1 zr
      cases e2 : fm (thk ρ) (zs.map (·.d)) p1 with
      | bad =>
        rw [e2] at h
        exact h.elim
      | exc c fs p2 =>
        rw [e2] at h
        exact h.elim
      | ok y p2 =>
        rw [e2] at h
        exact ⟨zs, p1, y, p2, sr.grows g1 x1, zr, g1, e2, h⟩
  refine PySem.W.callWith_K (h₀ := X.base) I.ok.mod.kin hk (thn (ha.run pos pins s σ H _ I args) fun us s1 ⟨vs, H1, I1, rv, zs', p1, y, p2, s1r, zr, g1, efm, post⟩ => ⟨I1.kIn, ?_⟩) he hpl
  -- the frame's cells, as they stood and still stand
  have frm : ∀ {y a}, X.env.cells.lookup y = some a → a ∉ frs X.stack ∧ (∀ o, X.base.get? a = some o → False) ∧ K0 a = none := fun q => cells_apart J0 hfn q
  have stays : ∀ {y a o}, X.env.cells.lookup y = some a → s0.heap.get? a = some o → s1.heap.get? a = some o ∧ H1 a = none := fun {y a o} q e => by
    obtain ⟨f1, f2, f3⟩ := frm q
    have nb : a ∉ bf := fun z => (J1 a z).2.2.2.2.1 y a q rfl
    have nf : a ∉ (X.blk s0 K0 scope en bf).fs := fun z => f1 z
    exact ⟨I1.base.keep a o e f3 nf nb, I1.base.free a o e f3 nb⟩
  -- the cells become known
  obtain ⟨Zc, eZ⟩ : ∃ Zc, Zc = cellsZ X s1.heap := ⟨_, rfl⟩
  have zsome : ∀ {a u}, Zc a = some u → (∃ y, X.env.cells.lookup y = some a) ∧ ∃ o, s1.heap.get? a = some o ∧ u = celO a o := fun {a u} z => cellsZ_some (by rw [← eZ]; exact z)
  have zex : ∀ {a}, Zc a ≠ none → ∃ y, X.env.cells.lookup y = some a := fun {a} z => by
    rcases z_cases Zc a with q | ⟨u, q⟩
    · exact absurd q z
    · exact (zsome q).1
  have hc : Cells Zc s1.heap := fun a u z => by
    obtain ⟨_, o, h1, h2⟩ := zsome z
    exact ⟨o, h2, h1⟩
  have hn : ∀ a, Zc a ≠ none → H1 a = none := fun a z => by
    obtain ⟨y, q⟩ := zex z
    obtain ⟨v, o, ho, _⟩ := J0.cell y a q
    exact (stays q ho).2
  have hf : ∀ a, Zc a ≠ none → a ∉ frs X.stack := fun a z => by
    obtain ⟨y, q⟩ := zex z
    exact (frm q).1
  have hb : ∀ a o, X.base.get? a = some o → Zc a = none := fun a o eb => by
    rcases z_cases Zc a with q | ⟨u, q⟩
    · exact q
    · obtain ⟨⟨y, q⟩, _⟩ := zsome q
      exact ((frm q).2.1 o eb).elim
  have zne : ∀ {a u}, Zc a = some u → Zc a ≠ none := fun {a u} z => by rw [z]; exact fun q => nomatch q
  obtain ⟨T', eT⟩ : ∃ T', T' = ({ T with C := hid (Hd Mo fp []) H1, Z := Zc } : Tx) := ⟨_, rfl⟩
  have tx : TxEq T T' := by rw [eT]; exact ⟨rfl, rfl, rfl, rfl, rfl, rfl, rfl, rfl, rfl⟩
  have eC : T'.C = hid (Hd Mo fp []) H1 := by rw [eT]
  have eZ' : T'.Z = Zc := by rw [eT]
  have tk' : TK T0 T' := by rw [eT]; exact ⟨b.tk.k, b.tk.f, b.tk.c, b.tk.n, b.tk.l⟩
  have hK' : T'.K = X.K := by rw [eT]; exact b.hK
  have cr : CapR X T' ρ σ := by
    refine ⟨J0.ok, I1.len, sr.len, fun y cc q => ?_, fun i y v e1 e2 e3 => ?_, fun i c e1 e2 => ?_, fun a z => ?_⟩
    · obtain ⟨v, o, ho, hd⟩ := J0.cell y cc q
      exact ⟨o, v, by rw [eZ', eZ]; exact cellsZ_at q (stays q ho).1, hd⟩
    · have ni : i ∉ own.map (·.2) := fun hi => by
        obtain ⟨q, hq, rfl⟩ := List.mem_map.mp hi
        have e4 := bok.ix q hq
        rw [e1] at e4
        have e4 : y = q.1 := Option.some.inj e4
        have oc' := List.all_eq_true.mp oc q hq
        rw [← e4] at oc'
        rcases e3 with z | z <;> (rw [z] at oc'; cases oc')
      have e2' : σ0[i]? = some (some v) := by
        have w1 : ∀ (τ : L2.St), (wipe τ (own.map (·.2)))[i]? = τ[i]? := fun τ => by
          have : ∀ vs : List Nat, i ∉ vs → (wipe τ vs)[i]? = τ[i]? := fun vs => by
            induction vs with
            | nil => exact fun _ => rfl
            | cons a vs ih =>
              intro hn
              have hn : i ≠ a ∧ i ∉ vs := ⟨fun z => hn (z ▸ List.mem_cons_self), fun z => hn (List.mem_cons_of_mem _ z)⟩
              unfold wipe
              rw [List.getElem?_set_ne (Ne.symm hn.1)]
              exact ih hn.2
          exact this _ ni
        rw [← w1 σ0, ← hwi, w1 σ]
        exact e2
      obtain ⟨m, hns, lo⟩ := J0.loc
      obtain ⟨u, r, lk⟩ := lo i y v e1 e2' (e3.elim (fun z => .inr (.inl z)) fun z => .inr (.inr z))
      rcases lk with ⟨k1, _⟩ | ⟨_, cc, k2, o, ho, hd⟩
      · have k1 : X.env.scope.names.lookup y = some .local := k1
        rcases e3 with z | z <;> rw [z] at k1 <;> cases k1
      · exact ⟨u, cc, o, r, k2, by rw [eZ', eZ]; exact cellsZ_at k2 (stays k2 ho).1, hd⟩
    · obtain ⟨v, e3, r⟩ := s1r.cell i c e1
      rw [e2] at r
      refine ⟨v, e3, Rp.tx tx _ ?_⟩
      rw [eC]
      exact r.2
    · rw [eC] at z
      rw [eZ']
      rcases z_cases Zc a with q | ⟨u, q⟩
      · exact q
      · cases e : hid (Hd Mo fp []) H1 a with
        | none => exact absurd e z
        | some o =>
          have e1 := (hid_some e).1
          rw [hn a (zne q)] at e1
          cases e1
  -- the callee runs there
  obtain ⟨ps, fd, h1, h2, h3⟩ := F.ex
  have subO := sub_ovr hn
  have xo : PenRep T (fun a => Hd Mo fp (zs'.flatMap (·.lo)) a ∨ Zc a ≠ none) p1 (ovr Zc H1) := (s1r.pen.sub subO).more (fun a h => .inl (.inl h)) fun c q ec h => by
    have nz : Zc c = none := by
      rcases z_cases Zc c with z | ⟨u, z⟩
      · exact z
      · obtain ⟨_, o, _, rfl⟩ := zsome z
        rw [ovr_in z] at ec
        cases ec
    rw [ovr_out nz] at ec
    rcases h with (h | ⟨i, _, h⟩) | h
    · exact h
    · obtain ⟨o, e1, e2⟩ := s1r.ld i c h
      rw [ec] at e1
      cases e1
      exact (code_ld e2).elim
    · exact absurd nz h
  have sp : spD X.prog X.w X.K X.mg X.base T0 fm vs (ovr Zc H1) (fun v H' => Sub Zc H' → Q v (hid (zs Zc) H')) (fun _ _ _ => False) := by
    refine ⟨T', fun a => Hd Mo fp (zs'.flatMap (·.lo)) a ∨ Zc a ≠ none, zs'.map (·.d), p1, thk ρ, tk', xo.tx tx, fun a h => ?_, ⟨fun a o ea => ?_, fun a o ea => ?_, fun a u ea => ?_⟩, fun n a c A out s H Mo p Q E => lams T' ρ σ n tk' hK' tx.l tx.q cr a c A out s H Mo p Q E, ?_, ?_⟩
    · rcases h with h | h
      · cases e1 : H1 a with
        | none => exact absurd e1 (s1r.hdThere h)
        | some o =>
          rw [subO a o e1]
          exact fun q => nomatch q
      · rcases z_cases Zc a with z | ⟨u, z⟩
        · exact absurd z h
        · rw [ovr_in z]
          exact fun q => nomatch q
    · rw [eC] at ea
      obtain ⟨e1, e2⟩ := hid_some ea
      rw [hid_out]
      · exact subO a o e1
      · intro q
        rcases q with q | q
        · exact e2 (q.mono fun i hi => absurd hi (by simp))
        · rw [hn a q] at e1
          cases e1
    · rw [eZ'] at ea
      exact ovr_in ea
    · rw [eZ'] at ea
      obtain ⟨_, o, _, h⟩ := zsome ea
      exact ⟨o, h⟩
    · refine Rps.tx tx _ (Rps.sub (hid_step (fun a o ea _ => subO a o ea) fun a q => ?_) _ (zr.rps (b := zs'.flatMap (·.lo)) fun z hz i hi => List.mem_flatMap.mpr ⟨z, hz, hi⟩))
      exact q.elim .inl fun q => .inr (hn a q)
    · show FPost T' _ _ (fm (thk ρ) (zs'.map (·.d)) p1) _ _
      rw [efm]
      intro v H' rr sub
      obtain ⟨as, o1, o2, o3⟩ := rr.own
      have spT : T'.sp = T.sp := sp_tx tx
      have gb : Gr T H1 (hid (zs Zc) H') := fun a o ea n => by
        have nz : Zc a = none := by
          rcases z_cases Zc a with z | ⟨u, z⟩
          · exact z
          · rw [hn a (zne z)] at ea
            cases ea
        rw [hid_z nz]
        exact rr.grow a o (by rw [hid_out (by rw [spT]; exact n)]; exact subO a o ea)
      have nas : ∀ a ∈ as, Zc a = none ∧ H1 a = none := fun a ha => by
        have nz : Zc a = none := Classical.byContradiction fun z => (o3 a ha).2 (.inr z)
        refine ⟨nz, ?_⟩
        cases e1 : H1 a with
        | none => rfl
        | some o =>
          have := (o3 a ha).1
          by_cases q : T'.sp a
          · rw [spT] at q
            exact absurd (.inl (.inl (s1r.pen.mo q).1)) (o3 a ha).2
          · rw [hid_out q, subO a o e1] at this
            cases this
      have pen' : PenRep T Mo p2 (hid (zs Zc) H') := by
        have := PenRep.out (fun a u ea => (zsome ea).2.elim fun o h => ⟨o, h.2⟩) sub (rr.pen.tx tx.symm)
        exact this.less s1r.pen fun a h => ⟨.inl (.inl h), by
          rcases z_cases Zc a with z | ⟨u, z⟩
          · exact z
          · exact absurd (hn a (zne z)) (s1r.mo a h)⟩
      have st : ∀ {S : Addr → Prop}, (∀ a, S a → (Hd Mo fp (zs'.flatMap (·.lo)) a ∨ Zc a ≠ none) ∨ a ∈ as) → Sub (hid (MoU (fun a => Hd Mo fp (zs'.flatMap (·.lo)) a ∨ Zc a ≠ none) as) H') (hid S (hid (zs Zc) H')) := fun {S} k a o ea => by
        obtain ⟨e1, e2⟩ := hid_some ea
        have nz : Zc a = none := Classical.byContradiction fun z => e2 (.inl (.inr z))
        rw [hid_out fun q => e2 (k a q), hid_z nz]
        exact e1
      refine post v _ (g1.trans gb) pen' ⟨.of (Rp.tx tx.symm _ (o1.rp (F := hid (MoU (fun a => Hd Mo fp (zs'.flatMap (·.lo)) a ∨ Zc a ≠ none) as) H') (st fun a q => .inl (.inl q)) _ fun a ha o ho => ?_)), fun _ => ⟨as, (OwnR.tx tx.symm _ o1).step (st fun a q => q.elim (fun q => .inl (.inl q)) .inr) _ fun a ha o ho => by rw [hid_z (nas a ha).1]; exact ho, o2, fun a ha => g1.back (nas a ha).2 fun z => s1r.nw a z (nas a ha).2⟩⟩
      rw [hid_out fun q => (o3 a ha).2 (.inl q), hid_z (nas a ha).1]
      exact ho
  have hl : (us ++ []).length = ps.length := by rw [List.append_nil, ← rv.length]; exact h2 vs _ _ _ sp
  have hbt := h1 s1 us I1.kIn hl
  rw [List.append_nil] at hbt
  refine wpAny_call (codeAny_mono (h3 X.A X.stack s1 (ovr Zc H1) ⟨us, []⟩ us vs _ _ b.g (b.r.mono hj) (env_in hc hn hf hb I1.env0) hbt rv sp) fun r s' hq => ?_)
  match r, hq with
  | .error e, hq => exact (passL_false hq).elim
  | .ok (.ret u), hq =>
    obtain ⟨v, H2, os, bare, un, hok, ru, H', q, sub, e2⟩ := ce_out hc hn hf hq
    exact I1.after ⟨v, H2, os, bare, un, hok, ru, by rw [e2]; exact q sub⟩
/-- [.. for .. in ..] whose items call the frame's closures -/
theorem de_lcL {elt tg it : Expr} {pos : Pos} {m : IM} {tm : TM} {te : M Z} {js : List Nat} (n : Nat) (hc : X.calm = true) (hN : X.N.Nodup) (hi : DI X T Wx tg it m) (ok : BlkOk X.N X.env.scope scope own) (hg : ∀ (s : Shared) (H : Hp) (C : Addr) (cl : List (Str × Addr)) (fp : List Addr), DG (X.blk s H scope (compEnvC scope cl C X.env) fp) T tg js tm)
    (he : ∀ (s : Shared) (H : Hp) (C : Addr) (cl : List (Str × Addr)) (fp : List Addr) (pins : List (Addr × Obj)) (σ0 : L2.St), Inv X pins σ0 H s → (∀ b ∈ fp, FpOk X pins H b) → PE (X.blk s H scope (compEnvC scope cl C X.env) fp) elt (fun σ' G Q => wipe σ' (own.map (·.2)) = wipe σ0 (own.map (·.2)) ∧ upE T WxF te σ' G Q))
    (hjs : ∀ j ∈ js, j ∈ own.map (·.2) := by decide) (hs : ∀ x, foldedSetIterable it X.env x = pure x := by intro _; rfl) : DE X T Wx (.ListComp elt [⟨tg, it, [], 0⟩] scope pos) (eLc n (own.map (·.2)) m tm (eC (.bl true)) te) := by
  refine ⟨fun pins s σ H Q I h => ?_⟩
  have h2 := tLc_wipe (up_lc hjs h)
  rw [eval_ListComp]
  refine lc_frame hc hN I hi ok hg (fun s H C cl fp => dts_nil) (fun s H C cl fp J f => he s H C cl fp pins σ J f) hs h2 fun D C s' m G I' q hn f => ⟨m, hn, fun h'' sb => ?_⟩
  obtain ⟨f0, f1, f2, f3, f4, f5⟩ := f
  exact ⟨.ref D, G, I'.turned (t' := s'.toks) (fun b o hb e => (sb.2 b hb).trans e) f0 f1 f3 f4 f5, rfl, q⟩
end
end DL
set_option Elab.async false
set_option linter.all false
set_option maxRecDepth 100000
set_option maxHeartbeats 4000000
/-! # The data layer, part 35: a comprehension over names whose slots own lists -/
namespace DL
open PySem PySem.Spec PyProof.Rows L2
/-- those of the slots that own lists -/
def owS (ρ : Env) (vs : List Nat) : List Nat := vs.filter fun i => match ρ[i]? with | some (some c) => !(c.o == 0) | _ => false
def eFz (vs : List Nat) (m : M Z) : M Z := fun ρ p => (m (frz (owS ρ vs) ρ) p).bind fun z p1 => .ok ⟨z.d, z.b ++ owS ρ vs, z.c ++ owS ρ vs, z.f⟩ p1
section
variable {X : Cx} {T : Tx} {Wx : WX} {e : Expr} {m : M Z}
theorem hd_fz {Mo : Addr → Prop} {fp : Nat → List Addr} {o b : List Nat} {a : Addr} : Hd Mo (frzFp o fp) b a ↔ Hd Mo fp (b ++ o) a := by
  constructor
  · rintro (h | ⟨i, h1, h2⟩)
    · exact .inl h
    · obtain ⟨h3, h4⟩ := frzFp_mem o h2
      exact .inr ⟨i, fun z => (List.mem_append.mp z).elim h1 h3, h4⟩
  · rintro (h | ⟨i, h1, h2⟩)
    · exact .inl h
    · exact .inr ⟨i, fun z => h1 (List.mem_append_left _ z), frzFp_of o (fun z => h1 (List.mem_append_right _ z)) h2⟩
theorem hid_fz {Mo : Addr → Prop} {fp : Nat → List Addr} {o b : List Nat} {H : Hp} : hid (Hd Mo (frzFp o fp) b) H = hid (Hd Mo fp (b ++ o)) H := by
  have : Hd Mo (frzFp o fp) b = Hd Mo fp (b ++ o) := funext fun a => propext hd_fz
  rw [this]
theorem de_fz {vs : List Nat} (h : DE X T Wx e m) : DE X T Wx e (eFz vs m) := by
  refine h.mono fun σ H Q q => ?_
  obtain ⟨H0, Mo, fp, ρ, p, s, q⟩ := q
  refine ⟨H0, Mo, frzFp (owS ρ vs) fp, frz (owS ρ vs) ρ, p, s.frz _, ?_⟩
  unfold eFz at q
  cases e1 : m (frz (owS ρ vs) ρ) p with
  | bad =>
    rw [e1] at q
    exact q.elim
  | exc c fs p1 =>
    rw [e1] at q
    exact q
  | ok z p1 =>
    rw [e1] at q
    have q : ∀ v H', Gr T H H' → PenRep T Mo p1 H' → ZRep T Mo fp H ⟨z.d, z.b ++ owS ρ vs, z.c ++ owS ρ vs, z.f⟩ v H' → Q v H' := q
    intro v H' g x zr
    refine q v H' g x ⟨?_, fun n => ?_⟩
    · have := zr.val
      rw [hid_fz, hid_fz] at this
      exact this
    · obtain ⟨as, o1, o2, o3⟩ := zr.own n
      refine ⟨as, o1.step (hid_mono fun a y => ?_) _ fun _ _ _ k => k, o2, o3⟩
      exact .inl (y.imp (fun y => hd_fz.mpr y) id)
end
end DL
set_option Elab.async false
set_option linter.all false
set_option maxRecDepth 100000
set_option maxHeartbeats 4000000
/-! # The typed layer, part 0: computations, draws, relations between mirrors and typed texts -/
namespace DL
open PySem PySem.Spec PyProof.Rows L2
noncomputable section

/-! ### computations -/
inductive E (α : Type) where
  | ok (a : α)
  | exc (c : Nat) (fs : List D)
  | bad
def E.bind {α β : Type} (e : E α) (k : α → E β) : E β := E.rec (motive := fun _ => E β) (fun a => k a) (fun c fs => .exc c fs) .bad e
def E.bindB {α β : Type} (e : E α) (k : α → E β) : E β := E.rec (motive := fun _ => E β) (fun a => k a) (fun _ _ => .bad) .bad e
def E.ofO {α : Type} (o : Option α) : E α := Option.rec (motive := fun _ => E α) .bad (fun a => .ok a) o
/-- trees of draws -/
inductive Dr (α : Type) where
  | ret (e : E α)
  | draw (m : Int) (k : Int → Dr α)
def Dr.bind {α β : Type} (t : Dr α) (f : α → Dr β) : Dr β := Dr.rec (motive := fun _ => Dr β) (fun e => E.rec (motive := fun _ => Dr β) (fun a => f a) (fun c fs => .ret (.exc c fs)) (.ret .bad) e) (fun m _ ih => .draw m ih) t
def Dr.bindB {α β : Type} (t : Dr α) (f : α → Dr β) : Dr β := Dr.rec (motive := fun _ => Dr β) (fun e => E.rec (motive := fun _ => Dr β) (fun a => f a) (fun _ _ => .ret .bad) (.ret .bad) e) (fun m _ ih => .draw m ih) t

/-- a pen that is fit to be drawn from -/
def Pen.good (q : Pen) : Bool := decide (0 ≤ q.at_) && decide (q.at_ ≤ q.cells.length) && decide (0 ≤ q.digits) && decide (0 ≤ q.fold) && decide (q.fold < 2 ^ 32) && decide (0 ≤ q.count) && decide (q.count < 2 ^ 40)
/-- what a draw does to the pen, ahead of the choice -/
def penTake (q : Pen) : Pen :=
  if q.digits = 0 ∧ q.at_ < q.cells.length then
    let c := q.cells.getD q.at_.toNat 0
    if c ≥ 10 ^ 18 then ⟨q.cells, q.at_ + 1, c - 10 ^ 18, q.count + 1, q.fold⟩ else ⟨q.cells, q.at_ + 1, q.digits, q.count + 1, (q.fold * 38993 + c).fmod 2147483399⟩
  else ⟨q.cells, q.at_, q.digits, q.count + 1, q.fold⟩
def pd (q : Pen) (m : Int) : Int × Pen :=
  let q := penTake q
  if q.digits > 0 then (q.digits.fmod m, { q with digits := q.digits.fdiv m })
  else ((((q.fold + q.count * 7603 + 79) ^ 33).fmod 2305843009213693951 |>.fdiv 32).fmod m, q)
def runD {α : Type} : Dr α → Option Pen → E α × Option Pen
  | .ret e, p => (e, p)
  | .draw m k, p => match p with
    | some q => if (q.good && decide (0 < m) && decide (m < 1073741824)) = true then runD (k (pd q m).1) (some (pd q m).2) else (.bad, p)
    | none => (.bad, none)

class CM (F : Type → Type) where
  ret : {α : Type} → E α → F α
  bind : {α β : Type} → F α → (α → F β) → F β
  bindB : {α β : Type} → F α → (α → F β) → F β
  run : {α : Type} → F α → Option Pen → E α × Option Pen
  run_ret : ∀ {α : Type} (e : E α) (p : Option Pen), run (ret e) p = (e, p)
  run_bind : ∀ {α β : Type} (t : F α) (k : α → F β) (p : Option Pen), run (bind t k) p = match run t p with
    | (.ok a, p1) => run (k a) p1
    | (.exc c fs, p1) => (.exc c fs, p1)
    | (.bad, p1) => (.bad, p1)
  run_bindB : ∀ {α β : Type} (t : F α) (k : α → F β) (p : Option Pen), run (bindB t k) p = match run t p with
    | (.ok a, p1) => run (k a) p1
    | (.exc c fs, p1) => (.bad, p1)
    | (.bad, p1) => (.bad, p1)
abbrev CM.pure {F : Type → Type} [CM F] {α : Type} (a : α) : F α := CM.ret (.ok a)
@[reducible] instance : CM E where
  ret e := e
  bind := E.bind
  bindB := E.bindB
  run e p := (e, p)
  run_ret _ _ := rfl
  run_bind t k p := by cases t <;> rfl
  run_bindB t k p := by cases t <;> rfl
theorem runD_bind {α β : Type} : ∀ (t : Dr α) (k : α → Dr β) (p : Option Pen), runD (t.bind k) p = match runD t p with
    | (.ok a, p1) => runD (k a) p1
    | (.exc c fs, p1) => (.exc c fs, p1)
    | (.bad, p1) => (.bad, p1)
  | .ret e, k, p => by cases e <;> rfl
  | .draw m f, k, p => by
    cases p with
    | none => rfl
    | some q =>
      show (if _ then runD ((f (pd q m).1).bind k) _ else _) = match (if _ then _ else _ : E α × Option Pen) with | (.ok a, p1) => runD (k a) p1 | (.exc c fs, p1) => (.exc c fs, p1) | (.bad, p1) => (.bad, p1)
      split
      · exact runD_bind _ k _
      · rfl
theorem runD_bindB {α β : Type} : ∀ (t : Dr α) (k : α → Dr β) (p : Option Pen), runD (t.bindB k) p = match runD t p with
    | (.ok a, p1) => runD (k a) p1
    | (.exc c fs, p1) => (.bad, p1)
    | (.bad, p1) => (.bad, p1)
  | .ret e, k, p => by cases e <;> rfl
  | .draw m f, k, p => by
    cases p with
    | none => rfl
    | some q =>
      show (if _ then runD ((f (pd q m).1).bindB k) _ else _) = match (if _ then _ else _ : E α × Option Pen) with | (.ok a, p1) => runD (k a) p1 | (.exc c fs, p1) => (.bad, p1) | (.bad, p1) => (.bad, p1)
      split
      · exact runD_bindB _ k _
      · rfl
@[reducible] instance : CM Dr where
  ret := .ret
  bind := Dr.bind
  bindB := Dr.bindB
  run := runD
  run_ret _ _ := rfl
  run_bind := runD_bind
  run_bindB := runD_bindB

/-! ### encodings -/
abbrev eI : Int → D := D.int
abbrev eB : Bool → D := D.bl
abbrev eS : Str → D := D.str
abbrev eN : Unit → D := fun _ => D.non
abbrev eD : D → D := fun d => d
abbrev eT {α : Type} (e : α → D) : List α → D := fun xs => .tup (xs.map e)
abbrev eL {α : Type} (e : α → D) : List α → D := fun xs => .lst (xs.map e)
abbrev eO {α : Type} (e : α → D) : Option α → D := fun o => match o with | none => .non | some a => e a
abbrev eP0 : Unit → D := fun _ => .tup []
abbrev eP1 {α : Type} (e : α → D) : α → D := fun x => .tup [e x]
abbrev eP2 {α β : Type} (e : α → D) (f : β → D) : α × β → D := fun x => .tup [e x.1, f x.2]
abbrev eP3 {α β γ : Type} (e : α → D) (f : β → D) (g : γ → D) : α × β × γ → D := fun x => .tup [e x.1, f x.2.1, g x.2.2]
abbrev eP4 {α β γ δ : Type} (e : α → D) (f : β → D) (g : γ → D) (h : δ → D) : α × β × γ × δ → D := fun x => .tup [e x.1, f x.2.1, g x.2.2.1, h x.2.2.2]
/-- list-free -/
class LF {α : Type} (e : α → D) : Prop where
  lf : ∀ a, lf (e a) = true
theorem LF.map {α : Type} {e : α → D} [h : LF e] : ∀ xs : List α, lfs (xs.map e) = true
  | [] => rfl
  | x :: xs => by
    show (DL.lf (e x) && lfs (xs.map e)) = true
    rw [h.lf x, LF.map xs]
    rfl
instance : LF eI := ⟨fun _ => rfl⟩
instance : LF eB := ⟨fun _ => rfl⟩
instance : LF eS := ⟨fun _ => rfl⟩
instance : LF eN := ⟨fun _ => rfl⟩
instance : LF D.int := ⟨fun _ => rfl⟩
instance : LF D.bl := ⟨fun _ => rfl⟩
instance : LF D.str := ⟨fun _ => rfl⟩
instance : LF eP0 := ⟨fun _ => rfl⟩
theorem LF.t {α : Type} {e : α → D} (h : LF e) : LF (eT e) := ⟨fun xs => LF.map (h := h) xs⟩
theorem LF.o {α : Type} {e : α → D} (h : LF e) : LF (eO e) := ⟨fun o => by cases o with | none => rfl | some a => exact h.lf a⟩
theorem LF.p1 {α : Type} {e : α → D} (h : LF e) : LF (eP1 e) := ⟨fun x => by show (DL.lf (e x) && true) = true; rw [h.lf]; rfl⟩
theorem LF.p2 {α β : Type} {e : α → D} {f : β → D} (h : LF e) (g : LF f) : LF (eP2 e f) := ⟨fun x => by show (DL.lf (e x.1) && (DL.lf (f x.2) && true)) = true; rw [h.lf, g.lf]; rfl⟩
theorem LF.p3 {α β γ : Type} {e : α → D} {f : β → D} {g : γ → D} (h1 : LF e) (h2 : LF f) (h3 : LF g) : LF (eP3 e f g) := ⟨fun x => by show (DL.lf (e x.1) && (DL.lf (f x.2.1) && (DL.lf (g x.2.2) && true))) = true; rw [h1.lf, h2.lf, h3.lf]; rfl⟩
theorem LF.p4 {α β γ δ : Type} {e : α → D} {f : β → D} {g : γ → D} {i : δ → D} (h1 : LF e) (h2 : LF f) (h3 : LF g) (h4 : LF i) : LF (eP4 e f g i) := ⟨fun x => by show (DL.lf (e x.1) && (DL.lf (f x.2.1) && (DL.lf (g x.2.2.1) && (DL.lf (i x.2.2.2) && true)))) = true; rw [h1.lf, h2.lf, h3.lf, h4.lf]; rfl⟩

/-! ### relations -/
section
variable {F : Type → Type} [CM F] {α β γ δ σ τ κ r : Type}
/-- an expression's outcome o at the pen p is what t says -/
def XR (t : F α) (enc : α → D) (b c : List Nat) (f : Nat) (o : R Z) (p : Option Pen) : Prop :=
  match CM.run t p with
  | (.ok a, p1) => o = .ok ⟨enc a, b, c, f⟩ p1
  | (.exc k fs, p1) => o = .exc k fs p1
  | (.bad, _) => True
/-- a condition's -/
def CR (t : F Bool) (o : R Z) (p : Option Pen) : Prop :=
  match CM.run t p with
  | (.ok a, p1) => ∃ z, o = .ok z p1 ∧ truth z.d = some a
  | (.exc k fs, p1) => o = .exc k fs p1
  | (.bad, _) => True
/-- arguments' -/
def AR (t : F α) (zs : α → List Z) (o : R (List Z)) (p : Option Pen) : Prop :=
  match CM.run t p with
  | (.ok a, p1) => o = .ok (zs a) p1
  | (.exc k fs, p1) => o = .exc k fs p1
  | (.bad, _) => True
/-- what is gone through -/
def IR (t : F (List α)) (enc : α → D) (js : List Nat) (o : R (List D × List Nat)) (p : Option Pen) : Prop :=
  match CM.run t p with
  | (.ok a, p1) => o = .ok (a.map enc, js) p1
  | (.exc k fs, p1) => o = .exc k fs p1
  | (.bad, _) => True
/-- a def's -/
def FR (t : F α) (enc : α → D) (f : Nat) (o : R (D × Nat)) (p : Option Pen) : Prop :=
  match CM.run t p with
  | (.ok a, p1) => o = .ok (enc a, f) p1
  | (.exc k fs, p1) => o = .exc k fs p1
  | (.bad, _) => True
/-- a slice's part -/
def OR (t : F (Option Int)) (o : R (Option Int)) (p : Option Pen) : Prop :=
  match CM.run t p with
  | (.ok a, p1) => o = .ok a p1
  | (.exc k fs, p1) => o = .exc k fs p1
  | (.bad, _) => True
inductive Fl (σ κ r : Type) where
  | nx (s : σ)
  | brk (s : κ)
  | cnt (s : κ)
  | ret (x : r)
/-- a block's: I tells the slots behind it, J the slots at break and continue -/
def SR (t : F (Fl σ κ r)) (I : σ → Env → Prop) (K : κ → Env → Prop) (enc : r → D) (f : Nat) (o : O) (p : Option Pen) : Prop :=
  match CM.run t p with
  | (.ok (.nx s), p1) => ∃ ρ, o = .nx ρ p1 ∧ I s ρ
  | (.ok (.brk s), p1) => ∃ ρ, o = .brk ρ p1 ∧ K s ρ
  | (.ok (.cnt s), p1) => ∃ ρ, o = .cnt ρ p1 ∧ K s ρ
  | (.ok (.ret x), p1) => o = .ret ⟨enc x, [], [], f⟩ p1
  | (.exc k fs, p1) => o = .exc k fs p1
  | (.bad, _) => True

/-! ### how they go on -/
theorem x_pure {a : α} {enc : α → D} {b c : List Nat} {f : Nat} {o : R Z} {p : Option Pen} (h : o = .ok ⟨enc a, b, c, f⟩ p) : XR (F := F) (CM.pure a) enc b c f o p := by
  unfold XR
  rw [CM.run_ret]
  exact h
theorem XR.bind {t : F α} {k : α → F β} {enc : α → D} {b c : List Nat} {f : Nat} {o : R Z} {p : Option Pen} (h : XR t enc b c f o p) {G : Z → Option Pen → R Z} {enc' : β → D} {b' c' : List Nat} {f' : Nat}
    (g : ∀ a p1, XR (k a) enc' b' c' f' (G ⟨enc a, b, c, f⟩ p1) p1) : XR (CM.bind t k) enc' b' c' f' (o.bind G) p := by
  unfold XR at h ⊢
  rw [CM.run_bind]
  generalize CM.run t p = x at h ⊢
  rcases x with ⟨a | ⟨k, fs⟩ | _, p1⟩
  · have h : o = _ := h
    rw [h]
    exact g a p1
  · have h : o = _ := h
    rw [h]
    exact rfl
  · trivial
theorem XR.bindC {t : F α} {k : α → F Bool} {enc : α → D} {b c : List Nat} {f : Nat} {o : R Z} {p : Option Pen} (h : XR t enc b c f o p) {G : Z → Option Pen → R Z}
    (g : ∀ a p1, CR (k a) (G ⟨enc a, b, c, f⟩ p1) p1) : CR (CM.bind t k) (o.bind G) p := by
  unfold XR at h
  unfold CR
  rw [CM.run_bind]
  generalize CM.run t p = x at h ⊢
  rcases x with ⟨a | ⟨k, fs⟩ | _, p1⟩
  · have h : o = _ := h
    rw [h]
    exact g a p1
  · have h : o = _ := h
    rw [h]
    exact rfl
  · trivial
theorem CR.bindX {t : F Bool} {k : Bool → F β} {o : R Z} {p : Option Pen} (h : CR t o p) {G : Z → Option Pen → R Z} {enc' : β → D} {b' c' : List Nat} {f' : Nat}
    (g : ∀ a z p1, truth z.d = some a → XR (k a) enc' b' c' f' (G z p1) p1) : XR (CM.bind t k) enc' b' c' f' (o.bind G) p := by
  unfold CR at h
  unfold XR
  rw [CM.run_bind]
  generalize CM.run t p = x at h ⊢
  rcases x with ⟨a | ⟨k, fs⟩ | _, p1⟩
  · obtain ⟨z, h, hz⟩ := h
    rw [h]
    exact g a z p1 hz
  · have h : o = _ := h
    rw [h]
    exact rfl
  · trivial
theorem CR.bindC {t : F Bool} {k : Bool → F Bool} {o : R Z} {p : Option Pen} (h : CR t o p) {G : Z → Option Pen → R Z}
    (g : ∀ a z p1, truth z.d = some a → CR (k a) (G z p1) p1) : CR (CM.bind t k) (o.bind G) p := by
  unfold CR at h ⊢
  rw [CM.run_bind]
  generalize CM.run t p = x at h ⊢
  rcases x with ⟨a | ⟨k, fs⟩ | _, p1⟩
  · obtain ⟨z, h, hz⟩ := h
    rw [h]
    exact g a z p1 hz
  · have h : o = _ := h
    rw [h]
    exact rfl
  · trivial
theorem AR.bindX {t : F α} {k : α → F β} {zs : α → List Z} {o : R (List Z)} {p : Option Pen} (h : AR t zs o p) {G : List Z → Option Pen → R Z} {enc' : β → D} {b' c' : List Nat} {f' : Nat}
    (g : ∀ a p1, XR (k a) enc' b' c' f' (G (zs a) p1) p1) : XR (CM.bind t k) enc' b' c' f' (o.bind G) p := by
  unfold AR at h
  unfold XR
  rw [CM.run_bind]
  generalize CM.run t p = x at h ⊢
  rcases x with ⟨a | ⟨k, fs⟩ | _, p1⟩
  · have h : o = _ := h
    rw [h]
    exact g a p1
  · have h : o = _ := h
    rw [h]
    exact rfl
  · trivial
theorem XR.thenS {t : F α} {k : α → F (Fl σ κ r)} {enc : α → D} {b c : List Nat} {f : Nat} {o : R Z} {p : Option Pen} (h : XR t enc b c f o p) {G : Z → Option Pen → O} {I : σ → Env → Prop} {K : κ → Env → Prop} {er : r → D} {fr : Nat}
    (g : ∀ a p1, SR (k a) I K er fr (G ⟨enc a, b, c, f⟩ p1) p1) : SR (CM.bind t k) I K er fr (o.thenO G) p := by
  unfold XR at h
  unfold SR
  rw [CM.run_bind]
  generalize CM.run t p = x at h ⊢
  rcases x with ⟨a | ⟨k, fs⟩ | _, p1⟩
  · have h : o = _ := h
    rw [h]
    exact g a p1
  · have h : o = _ := h
    rw [h]
    exact rfl
  · trivial
theorem CR.thenS {t : F Bool} {k : Bool → F (Fl σ κ r)} {o : R Z} {p : Option Pen} (h : CR t o p) {G : Z → Option Pen → O} {I : σ → Env → Prop} {K : κ → Env → Prop} {er : r → D} {fr : Nat}
    (g : ∀ a z p1, truth z.d = some a → SR (k a) I K er fr (G z p1) p1) : SR (CM.bind t k) I K er fr (o.thenO G) p := by
  unfold CR at h
  unfold SR
  rw [CM.run_bind]
  generalize CM.run t p = x at h ⊢
  rcases x with ⟨a | ⟨k, fs⟩ | _, p1⟩
  · obtain ⟨z, h, hz⟩ := h
    rw [h]
    exact g a z p1 hz
  · have h : o = _ := h
    rw [h]
    exact rfl
  · trivial
theorem AR.thenS {t : F α} {k : α → F (Fl σ κ r)} {zs : α → List Z} {o : R (List Z)} {p : Option Pen} (h : AR t zs o p) {G : List Z → Option Pen → O} {I : σ → Env → Prop} {K : κ → Env → Prop} {er : r → D} {fr : Nat}
    (g : ∀ a p1, SR (k a) I K er fr (G (zs a) p1) p1) : SR (CM.bind t k) I K er fr (o.thenO G) p := by
  unfold AR at h
  unfold SR
  rw [CM.run_bind]
  generalize CM.run t p = x at h ⊢
  rcases x with ⟨a | ⟨k, fs⟩ | _, p1⟩
  · have h : o = _ := h
    rw [h]
    exact g a p1
  · have h : o = _ := h
    rw [h]
    exact rfl
  · trivial
theorem IR.thenS {t : F (List α)} {k : List α → F (Fl σ κ r)} {enc : α → D} {js : List Nat} {o : R (List D × List Nat)} {p : Option Pen} (h : IR t enc js o p) {G : (List D × List Nat) → Option Pen → O} {I : σ → Env → Prop} {K : κ → Env → Prop} {er : r → D} {fr : Nat}
    (g : ∀ a p1, SR (k a) I K er fr (G (a.map enc, js) p1) p1) : SR (CM.bind t k) I K er fr (o.thenO G) p := by
  unfold IR at h
  unfold SR
  rw [CM.run_bind]
  generalize CM.run t p = x at h ⊢
  rcases x with ⟨a | ⟨k, fs⟩ | _, p1⟩
  · have h : o = _ := h
    rw [h]
    exact g a p1
  · have h : o = _ := h
    rw [h]
    exact rfl
  · trivial
theorem XR.bindA {t : F α} {k : α → F β} {enc : α → D} {b c : List Nat} {f : Nat} {o : R Z} {p : Option Pen} (h : XR t enc b c f o p) {G : Z → Option Pen → R (List Z)} {zs : β → List Z}
    (g : ∀ a p1, AR (k a) zs (G ⟨enc a, b, c, f⟩ p1) p1) : AR (CM.bind t k) zs (o.bind G) p := by
  unfold XR at h
  unfold AR
  rw [CM.run_bind]
  generalize CM.run t p = x at h ⊢
  rcases x with ⟨a | ⟨k, fs⟩ | _, p1⟩
  · have h : o = _ := h
    rw [h]
    exact g a p1
  · have h : o = _ := h
    rw [h]
    exact rfl
  · trivial
theorem AR.bindA {t : F α} {k : α → F β} {ys : α → List Z} {o : R (List Z)} {p : Option Pen} (h : AR t ys o p) {G : List Z → Option Pen → R (List Z)} {zs : β → List Z}
    (g : ∀ a p1, AR (k a) zs (G (ys a) p1) p1) : AR (CM.bind t k) zs (o.bind G) p := by
  unfold AR at h ⊢
  rw [CM.run_bind]
  generalize CM.run t p = x at h ⊢
  rcases x with ⟨a | ⟨k, fs⟩ | _, p1⟩
  · have h : o = _ := h
    rw [h]
    exact g a p1
  · have h : o = _ := h
    rw [h]
    exact rfl
  · trivial
theorem XR.bindI {t : F α} {k : α → F (List β)} {enc : α → D} {b c : List Nat} {f : Nat} {o : R Z} {p : Option Pen} (h : XR t enc b c f o p) {G : Z → Option Pen → R (List D × List Nat)} {enc' : β → D} {js : List Nat}
    (g : ∀ a p1, IR (k a) enc' js (G ⟨enc a, b, c, f⟩ p1) p1) : IR (CM.bind t k) enc' js (o.bind G) p := by
  unfold XR at h
  unfold IR
  rw [CM.run_bind]
  generalize CM.run t p = x at h ⊢
  rcases x with ⟨a | ⟨k, fs⟩ | _, p1⟩
  · have h : o = _ := h
    rw [h]
    exact g a p1
  · have h : o = _ := h
    rw [h]
    exact rfl
  · trivial
theorem AR.bindI {t : F α} {k : α → F (List β)} {zs : α → List Z} {o : R (List Z)} {p : Option Pen} (h : AR t zs o p) {G : List Z → Option Pen → R (List D × List Nat)} {enc' : β → D} {js : List Nat}
    (g : ∀ a p1, IR (k a) enc' js (G (zs a) p1) p1) : IR (CM.bind t k) enc' js (o.bind G) p := by
  unfold AR at h
  unfold IR
  rw [CM.run_bind]
  generalize CM.run t p = x at h ⊢
  rcases x with ⟨a | ⟨k, fs⟩ | _, p1⟩
  · have h : o = _ := h
    rw [h]
    exact g a p1
  · have h : o = _ := h
    rw [h]
    exact rfl
  · trivial
theorem IR.bindX {t : F (List α)} {k : List α → F β} {enc : α → D} {js : List Nat} {o : R (List D × List Nat)} {p : Option Pen} (h : IR t enc js o p) {G : (List D × List Nat) → Option Pen → R Z} {enc' : β → D} {b' c' : List Nat} {f' : Nat}
    (g : ∀ a p1, XR (k a) enc' b' c' f' (G (a.map enc, js) p1) p1) : XR (CM.bind t k) enc' b' c' f' (o.bind G) p := by
  unfold IR at h
  unfold XR
  rw [CM.run_bind]
  generalize CM.run t p = x at h ⊢
  rcases x with ⟨a | ⟨k, fs⟩ | _, p1⟩
  · have h : o = _ := h
    rw [h]
    exact g a p1
  · have h : o = _ := h
    rw [h]
    exact rfl
  · trivial
end
end
end DL
set_option Elab.async false
set_option linter.all false
set_option maxRecDepth 100000
set_option maxHeartbeats 4000000
/-! # The typed layer, part 1: expressions -/
namespace DL
open PySem PySem.Spec PyProof.Rows L2
noncomputable section

/-! ### the same data: typed equality -/
mutual
theorem dOk_mono : ∀ (d : D) {n m : Nat}, n ≤ m → dOk d n = true → dOk d m = true
  | .non, _, _, _, _ => rfl
  | .bl _, _, _, _, _ => rfl
  | .int _, _, _, _, _ => rfl
  | .str x, _, _, _, h => h
  | .tup xs, 0, _, _, h => nomatch h
  | .tup xs, n + 1, 0, l, _ => absurd l (by omega)
  | .tup xs, n + 1, m + 1, l, h => dOks_mono xs (by omega) h
  | .lst xs, 0, _, _, h => nomatch h
  | .lst xs, n + 1, 0, l, _ => absurd l (by omega)
  | .lst xs, n + 1, m + 1, l, h => dOks_mono xs (by omega) h
  | .dic _ _, _, _, _, h => nomatch h
  | .obj _ _, _, _, _, h => nomatch h
  | .fn _, _, _, _, h => nomatch h
  | .ty _, _, _, _, h => nomatch h
  | .clo _, _, _, _, h => nomatch h
  | .pen, _, _, _, h => nomatch h
theorem dOks_mono : ∀ (ds : List D) {n m : Nat}, n ≤ m → dOks ds n = true → dOks ds m = true
  | [], _, _, _, _ => rfl
  | d :: ds, n, m, l, h => by
    have h : dOk d n = true ∧ dOks ds n = true := by simpa [dOks] using h
    show (dOk d m && dOks ds m) = true
    rw [dOk_mono d l h.1, dOks_mono ds l h.2]
    rfl
end
/-- enc's data, of a depth of at most n, are alike just if they come of the same -/
structure EqE {α : Type} (e : α → D) (n : Nat) : Prop where
  ok : ∀ a, dOk (e a) n = true
  eqv : ∀ a b, PyData.eqv (toPy (e a)) (toPy (e b)) = true ↔ a = b
theorem qI : EqE eI 0 := ⟨fun _ => rfl, fun a b => by show ((a == b) = true) ↔ _; exact beq_iff_eq⟩
theorem qB : EqE eB 0 := ⟨fun _ => rfl, fun a b => by show ((a == b) = true) ↔ _; exact beq_iff_eq⟩
theorem qN : EqE eN 0 := ⟨fun _ => rfl, fun a b => ⟨fun _ => rfl, fun _ => rfl⟩⟩
section
variable {α β γ δ : Type} {e : α → D} {f : β → D} {g : γ → D} {i : δ → D} {n m k l : Nat}
theorem EqE.dOks (q : EqE e n) : ∀ xs : List α, dOks (xs.map e) n = true
  | [] => rfl
  | x :: xs => by
    show (dOk (e x) n && DL.dOks (xs.map e) n) = true
    rw [q.ok x, EqE.dOks q xs]
    rfl
theorem EqE.eqvs (q : EqE e n) : ∀ xs ys : List α, PyData.eqvAll (toPys (xs.map e)) (toPys (ys.map e)) = true ↔ xs = ys
  | [], [] => ⟨fun _ => rfl, fun _ => rfl⟩
  | [], y :: ys => ⟨fun h => (nomatch h), fun h => (nomatch h)⟩
  | x :: xs, [] => ⟨fun h => (nomatch h), fun h => (nomatch h)⟩
  | x :: xs, y :: ys => by
    show (PyData.eqv (toPy (e x)) (toPy (e y)) && PyData.eqvAll (toPys (xs.map e)) (toPys (ys.map e))) = true ↔ _
    rw [Bool.and_eq_true, q.eqv, EqE.eqvs q xs ys]
    exact ⟨fun h => by rw [h.1, h.2], fun h => by cases h; exact ⟨rfl, rfl⟩⟩
theorem qT (q : EqE e n) : EqE (eT e) (n + 1) := ⟨fun xs => q.dOks xs, fun xs ys => q.eqvs xs ys⟩
theorem qL (q : EqE e n) : EqE (eL e) (n + 1) := ⟨fun xs => q.dOks xs, fun xs ys => q.eqvs xs ys⟩
theorem qP0 : EqE eP0 1 := ⟨fun _ => rfl, fun _ _ => ⟨fun _ => rfl, fun _ => rfl⟩⟩
theorem qP1 (q : EqE e n) : EqE (eP1 e) (n + 1) := ⟨fun x => by
    show (dOk (e x) n && true) = true
    rw [q.ok]; rfl, fun x y => by
    show (PyData.eqv (toPy (e x)) (toPy (e y)) && true) = true ↔ _
    rw [Bool.and_true, q.eqv]⟩
theorem qP2 (q : EqE e n) (r : EqE f m) : EqE (eP2 e f) (max n m + 1) := ⟨fun x => by
    show (dOk (e x.1) (max n m) && (dOk (f x.2) (max n m) && true)) = true
    rw [dOk_mono _ (by omega) (q.ok x.1), dOk_mono _ (by omega) (r.ok x.2)]; rfl, fun x y => by
    show (PyData.eqv (toPy (e x.1)) (toPy (e y.1)) && (PyData.eqv (toPy (f x.2)) (toPy (f y.2)) && true)) = true ↔ _
    rw [Bool.and_true, Bool.and_eq_true, q.eqv, r.eqv]
    exact ⟨fun h => Prod.ext h.1 h.2, fun h => by rw [h]; exact ⟨rfl, rfl⟩⟩⟩
theorem qP3 (q : EqE e n) (r : EqE f m) (s : EqE g k) : EqE (eP3 e f g) (max n (max m k) + 1) := ⟨fun x => by
    show (dOk (e x.1) (max n (max m k)) && (dOk (f x.2.1) (max n (max m k)) && (dOk (g x.2.2) (max n (max m k)) && true))) = true
    rw [dOk_mono _ (by omega) (q.ok x.1), dOk_mono _ (by omega) (r.ok x.2.1), dOk_mono _ (by omega) (s.ok x.2.2)]; rfl, fun x y => by
    show (PyData.eqv (toPy (e x.1)) (toPy (e y.1)) && (PyData.eqv (toPy (f x.2.1)) (toPy (f y.2.1)) && (PyData.eqv (toPy (g x.2.2)) (toPy (g y.2.2)) && true))) = true ↔ _
    rw [Bool.and_true, Bool.and_eq_true, Bool.and_eq_true, q.eqv, r.eqv, s.eqv]
    exact ⟨fun h => Prod.ext h.1 (Prod.ext h.2.1 h.2.2), fun h => by rw [h]; exact ⟨rfl, rfl, rfl⟩⟩⟩
theorem EqE.op [DecidableEq α] (q : EqE e n) (hn : n ≤ 60) {a b : α} {b1 c1 b2 c2 : List Nat} {f1 f2 : Nat} : opEq ⟨e a, b1, c1, f1⟩ ⟨e b, b2, c2, f2⟩ = some (zS (.bl (decide (a = b)))) := by
  unfold opEq
  rw [if_pos (by rw [dOk_mono _ hn (q.ok a), dOk_mono _ hn (q.ok b)]; rfl)]
  congr 4
  by_cases h : a = b
  · rw [decide_eq_true h]; exact (q.eqv a b).mpr h
  · rw [decide_eq_false h]; exact Bool.eq_false_iff.mpr fun z => h ((q.eqv a b).mp z)
theorem EqE.opN [DecidableEq α] (q : EqE e n) (hn : n ≤ 60) {a b : α} {b1 c1 b2 c2 : List Nat} {f1 f2 : Nat} : opNe ⟨e a, b1, c1, f1⟩ ⟨e b, b2, c2, f2⟩ = some (zS (.bl (!decide (a = b)))) := by
  unfold opNe
  rw [if_pos (by rw [dOk_mono _ hn (q.ok a), dOk_mono _ hn (q.ok b)]; rfl)]
  congr 5
  by_cases h : a = b
  · rw [decide_eq_true h]; exact (q.eqv a b).mpr h
  · rw [decide_eq_false h]; exact Bool.eq_false_iff.mpr fun z => h ((q.eqv a b).mp z)
end

/-! ### names -/
section
variable {ρ : Env} {p : Option Pen} {i : Nat} {d : D} {o : Nat}
theorem v_0 (h : ρ[i]? = some (some ⟨d, 0⟩)) : eVar i ρ p = .ok ⟨d, [], [], 0⟩ p := by
  unfold eVar
  rw [h]
  rfl
theorem v_1 (h : ρ[i]? = some (some ⟨d, 1⟩)) : eVar i ρ p = .ok ⟨d, [i], [], 0⟩ p := by
  unfold eVar
  rw [h]
  rfl
theorem v_2 (h : ρ[i]? = some (some ⟨d, o + 2⟩)) : eVar i ρ p = .ok ⟨d, [i], [i], 0⟩ p := by
  unfold eVar
  rw [h]
  show R.ok (Z.mk d (if o + 2 = 0 then [] else [i]) (if o + 2 ≤ 1 then [] else [i]) 0) p = _
  rw [if_neg (by omega), if_neg (by omega)]
/-- at most one deep -/
abbrev ob (o i : Nat) : List Nat := if o = 0 then [] else [i]
theorem v_u (h : ρ[i]? = some (some ⟨d, o⟩)) (l : o ≤ 1) : eVar i ρ p = .ok ⟨d, ob o i, [], 0⟩ p := by
  unfold eVar
  rw [h]
  show R.ok (Z.mk d (if o = 0 then [] else [i]) (if o ≤ 1 then [] else [i]) 0) p = _
  rw [if_pos l]
end

/-! ### operators -/
section
variable {F : Type → Type} [CM F] {α β γ : Type} {ρ : Env} {p : Option Pen} {m f g : M Z} {e1 : α → D} {e2 : β → D} {e3 : γ → D} {b1 c1 b2 c2 b3 c3 : List Nat} {f1 f2 f3 : Nat}
theorem x_op {op : Z → Z → Option Z} {t1 : F α} {t2 : F β} {w : α → β → E γ} (h1 : XR t1 e1 b1 c1 f1 (f ρ p) p) (h2 : ∀ p, XR t2 e2 b2 c2 f2 (g ρ p) p)
    (ho : ∀ a b r, w a b = .ok r → op ⟨e1 a, b1, c1, f1⟩ ⟨e2 b, b2, c2, f2⟩ = some ⟨e3 r, b3, c3, f3⟩) (hx : ∀ a b k fs, w a b ≠ .exc k fs := by intros; intro h; nomatch h) :
    XR (CM.bind t1 fun a => CM.bind t2 fun b => CM.ret (w a b)) e3 b3 c3 f3 (eOp op f g ρ p) p := by
  refine h1.bind fun a p1 => (h2 p1).bind fun b p2 => ?_
  unfold XR
  rw [CM.run_ret]
  cases e : w a b with
  | ok r =>
    have z := ho a b r e
    show (match op _ _ with | some z => R.ok z p2 | none => R.bad) = _
    rw [z]
  | exc k fs => exact absurd e (hx a b k fs)
  | bad => trivial
theorem x_un {op : Z → Option Z} {t1 : F α} {w : α → E γ} (h1 : XR t1 e1 b1 c1 f1 (f ρ p) p)
    (ho : ∀ a r, w a = .ok r → op ⟨e1 a, b1, c1, f1⟩ = some ⟨e3 r, b3, c3, f3⟩) (hx : ∀ a k fs, w a ≠ .exc k fs := by intros; intro h; nomatch h) :
    XR (CM.bind t1 fun a => CM.ret (w a)) e3 b3 c3 f3 (eUn op f ρ p) p := by
  refine h1.bind fun a p1 => ?_
  unfold XR
  rw [CM.run_ret]
  cases e : w a with
  | ok r =>
    have z := ho a r e
    show (match op _ with | some z => R.ok z p1 | none => R.bad) = _
    rw [z]
  | exc k fs => exact absurd e (hx a k fs)
  | bad => trivial
theorem ev_un {op : Z → Option Z} {x z : Z} {p1 : Option Pen} (h1 : f ρ p = .ok x p1) (h3 : op x = some z) : eUn op f ρ p = .ok z p1 := by
  unfold eUn
  rw [h1]
  show (match op x with | some z => R.ok z p1 | none => R.bad) = _
  rw [h3]
theorem ev_not {x : Z} {p1 : Option Pen} {b : Bool} (h1 : f ρ p = .ok x p1) (h3 : truth x.d = some b) : eNot f ρ p = .ok (zS (.bl !b)) p1 := by
  unfold eNot
  rw [h1]
  show (match truth x.d with | some b => R.ok (zS (.bl !b)) p1 | none => R.bad) = _
  rw [h3]
/-! conditions -/
theorem c_b {t : F Bool} (h : XR t eB b1 c1 f1 (f ρ p) p) : CR t (f ρ p) p := by
  unfold XR at h
  unfold CR
  generalize CM.run t p = x at h ⊢
  rcases x with ⟨a | ⟨k, fs⟩ | _, p1⟩
  · exact ⟨_, h, rfl⟩
  · exact h
  · trivial
theorem c_pure {b : Bool} {z : Z} {o : R Z} (h : o = .ok z p) (ht : truth z.d = some b) : CR (F := F) (CM.pure b) o p := by
  unfold CR
  rw [CM.run_ret]
  exact ⟨z, h, ht⟩
theorem c_of {t : F α} {w : α → Bool} (h : XR t e1 b1 c1 f1 (f ρ p) p) (hw : ∀ a, truth (e1 a) = some (w a)) : CR (CM.bind t fun a => CM.pure (w a)) (f ρ p) p := by
  unfold XR at h
  unfold CR
  rw [CM.run_bind]
  generalize CM.run t p = x at h ⊢
  rcases x with ⟨a | ⟨k, fs⟩ | _, p1⟩
  · simp only [CM.run_ret]
    exact ⟨_, h, hw a⟩
  · exact h
  · trivial
theorem tr_map {e : α → D} (xs : List α) : truth (.lst (xs.map e)) = some (!xs.isEmpty) := by cases xs <;> rfl
theorem tr_mapT {e : α → D} (xs : List α) : truth (.tup (xs.map e)) = some (!xs.isEmpty) := by cases xs <;> rfl
theorem c_not {t : F Bool} (h : CR t (f ρ p) p) : CR (CM.bind t fun a => CM.pure (!a)) (eNot f ρ p) p := by
  refine h.bindC fun a z p1 hz => ?_
  unfold CR
  rw [CM.run_ret]
  refine ⟨zS (.bl !a), ?_, rfl⟩
  show (match truth z.d with | some b => R.ok (zS (.bl !b)) p1 | none => R.bad) = _
  rw [hz]
theorem x_not {t : F Bool} (h : CR t (f ρ p) p) : XR (CM.bind t fun a => CM.pure (!a)) eB [] [] 0 (eNot f ρ p) p := by
  refine h.bindX fun a z p1 hz => ?_
  unfold XR
  rw [CM.run_ret]
  show (match truth z.d with | some b => R.ok (zS (.bl !b)) p1 | none => R.bad) = _
  rw [hz]
theorem c_and {t1 t2 : F Bool} (h1 : CR t1 (f ρ p) p) (h2 : ∀ p, CR t2 (g ρ p) p) : CR (CM.bind t1 fun a => bif a then t2 else CM.pure false) (eAnd f g ρ p) p := by
  refine h1.bindC fun a z p1 hz => ?_
  cases a with
  | true =>
    show CR t2 (match truth z.d with | some true => g ρ p1 | some false => .ok z p1 | none => .bad) p1
    rw [hz]
    exact h2 p1
  | false =>
    show CR (CM.pure false) (match truth z.d with | some true => g ρ p1 | some false => .ok z p1 | none => .bad) p1
    rw [hz]
    exact c_pure rfl hz
theorem c_or {t1 t2 : F Bool} (h1 : CR t1 (f ρ p) p) (h2 : ∀ p, CR t2 (g ρ p) p) : CR (CM.bind t1 fun a => bif a then CM.pure true else t2) (eOr f g ρ p) p := by
  refine h1.bindC fun a z p1 hz => ?_
  cases a with
  | true =>
    show CR (CM.pure true) (match truth z.d with | some true => .ok z p1 | some false => g ρ p1 | none => .bad) p1
    rw [hz]
    exact c_pure rfl hz
  | false =>
    show CR t2 (match truth z.d with | some true => .ok z p1 | some false => g ρ p1 | none => .bad) p1
    rw [hz]
    exact h2 p1
theorem x_and {t1 t2 : F Bool} (h1 : XR t1 eB [] [] 0 (f ρ p) p) (h2 : ∀ p, XR t2 eB [] [] 0 (g ρ p) p) : XR (CM.bind t1 fun a => bif a then t2 else CM.pure false) eB [] [] 0 (eAnd f g ρ p) p := by
  refine h1.bind fun a p1 => ?_
  cases a with
  | true => exact h2 p1
  | false => exact x_pure rfl
theorem x_or {t1 t2 : F Bool} (h1 : XR t1 eB [] [] 0 (f ρ p) p) (h2 : ∀ p, XR t2 eB [] [] 0 (g ρ p) p) : XR (CM.bind t1 fun a => bif a then CM.pure true else t2) eB [] [] 0 (eOr f g ρ p) p := by
  refine h1.bind fun a p1 => ?_
  cases a with
  | true => exact x_pure rfl
  | false => exact h2 p1
theorem x_if {c : M Z} {t : F Bool} {t1 t2 : F α} (hc : CR t (c ρ p) p) (h1 : ∀ p, XR t1 e1 b1 c1 f1 (f ρ p) p) (h2 : ∀ p, XR t2 e1 b1 c1 f1 (g ρ p) p) : XR (CM.bind t fun a => bif a then t1 else t2) e1 b1 c1 f1 (eIf c f g ρ p) p := by
  refine hc.bindX fun a z p1 hz => ?_
  show XR _ e1 b1 c1 f1 (match truth z.d with | some true => f ρ p1 | some false => g ρ p1 | none => .bad) p1
  rw [hz]
  cases a with
  | true => exact h1 p1
  | false => exact h2 p1
theorem x_chain {op op' : Z → Z → Option Z} {k : M Z} {t1 : F α} {t2 : F β} {t3 : F γ} {w : α → β → Bool} {w' : β → γ → Bool} (h1 : XR t1 e1 b1 c1 f1 (f ρ p) p) (h2 : ∀ p, XR t2 e2 b2 c2 f2 (g ρ p) p) (h3 : ∀ p, XR t3 e3 b3 c3 f3 (k ρ p) p)
    (ho : ∀ a b, op ⟨e1 a, b1, c1, f1⟩ ⟨e2 b, b2, c2, f2⟩ = some (zS (.bl (w a b)))) (ho' : ∀ a b, op' ⟨e2 a, b2, c2, f2⟩ ⟨e3 b, b3, c3, f3⟩ = some (zS (.bl (w' a b)))) :
    XR (CM.bind t1 fun a => CM.bind t2 fun b => bif w a b then CM.bind t3 fun c => CM.pure (w' b c) else CM.pure false) eB [] [] 0 (eChain op op' f g k ρ p) p := by
  refine h1.bind fun a p1 => (h2 p1).bind fun b p2 => ?_
  show XR _ eB [] [] 0 (match op _ _ with | some z => (match z.d with | .bl true => (k ρ p2).bind fun w p3 => (match op' _ w with | some u => .ok u p3 | none => .bad) | .bl false => .ok (zS (.bl false)) p2 | _ => .bad) | none => .bad) p2
  rw [ho a b]
  cases w a b with
  | true =>
    refine (h3 p2).bind fun c p3 => ?_
    rw [ho' b c]
    exact x_pure rfl
  | false => exact x_pure rfl
/-! arguments -/
theorem a_nil : AR (F := F) (CM.pure ()) (fun _ => []) (aNil ρ p) p := by
  unfold AR
  rw [CM.run_ret]
  rfl
theorem a_cons {G : M (List Z)} {t1 : F α} {t2 : F β} {zs : β → List Z} (h1 : XR t1 e1 b1 c1 f1 (f ρ p) p) (h2 : ∀ p, AR t2 zs (G ρ p) p) : AR (CM.bind t1 fun a => CM.bind t2 fun s => CM.pure (a, s)) (fun x => ⟨e1 x.1, b1, c1, f1⟩ :: zs x.2) (aCons f G ρ p) p := by
  refine h1.bindA fun a p1 => (h2 p1).bindA fun s p2 => ?_
  unfold AR
  rw [CM.run_ret]
theorem a_one {t1 : F α} (h1 : XR t1 e1 b1 c1 f1 (f ρ p) p) : AR t1 (fun x => [⟨e1 x, b1, c1, f1⟩]) (aCons f aNil ρ p) p := by
  unfold XR at h1
  unfold AR
  generalize CM.run t1 p = x at h1 ⊢
  rcases x with ⟨a | ⟨k, fs⟩ | _, p1⟩
  · have h1 : f ρ p = _ := h1
    show (f ρ p).bind _ = _
    rw [h1]
    rfl
  · have h1 : f ρ p = _ := h1
    show (f ρ p).bind _ = _
    rw [h1]
    rfl
  · trivial
theorem a_pure {G : M (List Z)} {zs : List Z} (h : G ρ p = .ok zs p) : AR (F := F) (CM.pure ()) (fun _ => zs) (G ρ p) p := by
  unfold AR
  rw [CM.run_ret]
  exact h
theorem x_cb {G : M (List Z)} {bo : List Z → Option Z} {t : F α} {zs : α → List Z} {w : α → E γ} (h : AR t zs (G ρ p) p) (ho : ∀ a r, w a = .ok r → bo (zs a) = some ⟨e3 r, b3, c3, f3⟩) (hx : ∀ a k fs, w a ≠ .exc k fs := by intros; intro h; nomatch h) :
    XR (CM.bind t fun a => CM.ret (w a)) e3 b3 c3 f3 (eCB bo G ρ p) p := by
  refine h.bindX fun a p1 => ?_
  unfold XR
  rw [CM.run_ret]
  cases e : w a with
  | ok r =>
    show (match bo (zs a) with | some z => R.ok z p1 | none => R.bad) = _
    rw [ho a r e]
  | exc k fs => exact absurd e (hx a k fs)
  | bad => trivial
theorem x_tup {G : M (List Z)} {t : F α} {zs : α → List Z} {lo : List Nat} (h : AR t zs (G ρ p) p) (hz : ∀ a, ((zs a).map (·.d)) = (match e1 a with | .tup l => l | _ => []) ∧ (zs a).flatMap (·.lo) = lo ∧ (zs a).length ≤ LIM ∧ ∃ l, e1 a = .tup l) : XR t e1 [] lo 0 (eTup G ρ p) p := by
  unfold AR at h
  unfold XR
  generalize CM.run t p = x at h ⊢
  rcases x with ⟨a | ⟨k, fs⟩ | _, p1⟩
  · have h : G ρ p = _ := h
    obtain ⟨h1, h2, h3, l, h4⟩ := hz a
    show (G ρ p).bind _ = _
    rw [h]
    show (if (zs a).length ≤ LIM then R.ok _ p1 else R.bad) = _
    rw [if_pos h3, h1, h2, h4]
  · have h : G ρ p = _ := h
    show (G ρ p).bind _ = _
    rw [h]
    rfl
  · trivial
theorem ev_tup {G : M (List Z)} {zs : List Z} {p1 : Option Pen} (h : G ρ p = .ok zs p1) (hl : zs.length ≤ LIM) : eTup G ρ p = .ok ⟨.tup (zs.map (·.d)), [], zs.flatMap (·.lo), 0⟩ p1 := by
  show (G ρ p).bind _ = _
  rw [h]
  show (if zs.length ≤ LIM then R.ok _ p1 else R.bad) = _
  rw [if_pos hl]
theorem ev_lst {G : M (List Z)} {zs : List Z} {p1 : Option Pen} (h : G ρ p = .ok zs p1) (hl : zs.length ≤ LIM) : eLst G ρ p = .ok ⟨.lst (zs.map (·.d)), [], zs.flatMap (·.lo), 1⟩ p1 := by
  show (G ρ p).bind _ = _
  rw [h]
  show (if zs.length ≤ LIM then R.ok _ p1 else R.bad) = _
  rw [if_pos hl]
theorem x_lst {G : M (List Z)} {t : F α} {zs : α → List Z} {lo : List Nat} (h : AR t zs (G ρ p) p) (hz : ∀ a, e1 a = .lst ((zs a).map (·.d)) ∧ (zs a).flatMap (·.lo) = lo ∧ (zs a).length ≤ LIM) : XR t e1 [] lo 1 (eLst G ρ p) p := by
  unfold AR at h
  unfold XR
  generalize CM.run t p = x at h ⊢
  rcases x with ⟨a | ⟨k, fs⟩ | _, p1⟩
  · have h : G ρ p = _ := h
    obtain ⟨h1, h2, h3⟩ := hz a
    show (G ρ p).bind _ = _
    rw [h]
    show (if (zs a).length ≤ LIM then R.ok _ p1 else R.bad) = _
    rw [if_pos h3, h1, h2]
  · have h : G ρ p = _ := h
    show (G ρ p).bind _ = _
    rw [h]
    rfl
  · trivial
/-! calls -/
theorem x_call {fm : FM} {G : M (List Z)} {t : F α} {zs : α → List Z} {k : α → F β} {lo : List Nat} (h : AR t zs (G ρ p) p) (hf : ∀ a p, FR (k a) e2 f2 (fm ((zs a).map (·.d)) p) p) (hl : ∀ a, (zs a).flatMap (·.lo) = lo) :
    XR (CM.bind t k) e2 lo lo f2 (eCall fm G ρ p) p := by
  refine h.bindX fun a p1 => ?_
  have hf := hf a p1
  unfold FR at hf
  unfold XR
  generalize CM.run (k a) p1 = x at hf ⊢
  rcases x with ⟨a' | ⟨k, fs⟩ | _, p2⟩
  · have hf : fm _ _ = _ := hf
    show (fm _ p1).bind _ = _
    rw [hf]
    show R.ok _ p2 = _
    rw [hl a]
  · have hf : fm _ _ = _ := hf
    show (fm _ p1).bind _ = _
    rw [hf]
    rfl
  · trivial
/-- a def without draws, in a text with them -/
theorem FR.lift {t : E α} {o : R (D × Nat)} (h : FR t e1 f1 o p) : FR (F := F) (CM.ret t) e1 f1 o p := by
  unfold FR at h ⊢
  rw [CM.run_ret]
  exact h
theorem XR.lift {t : E α} {o : R Z} (h : XR t e1 b1 c1 f1 o p) : XR (F := F) (CM.ret t) e1 b1 c1 f1 o p := by
  unfold XR at h ⊢
  rw [CM.run_ret]
  exact h
end
end
end DL
set_option Elab.async false
set_option linter.all false
set_option maxRecDepth 100000
set_option maxHeartbeats 4000000
/-! # The typed layer, part 2: operators by type, iterables, comprehensions -/
namespace DL
open PySem PySem.Spec PyProof.Rows L2
noncomputable section

/-! ### typed operators -/
@[irreducible] def mulT (i j : Int) : E Int := if mulOk i j = true then .ok (i * j) else .bad
@[irreducible] def fdivT (i j : Int) : E Int := if divOk j = true then .ok (i.fdiv j) else .bad
@[irreducible] def modT (i j : Int) : E Int := if decide (j ≠ 0) = true then .ok (i.fmod j) else .bad
@[irreducible] def powT (i j : Int) : E Int := if powOk i j = true then .ok (i ^ j.toNat) else .bad
@[irreducible] def shlT (i j : Int) : E Int := if powOk i j = true then .ok (i * 2 ^ j.toNat) else .bad
@[irreducible] def shrT (i j : Int) : E Int := if decide (0 ≤ j) = true then .ok (i / 2 ^ j.toNat) else .bad
@[irreducible] def appT {α : Type} (xs ys : List α) : E (List α) := if xs.length + ys.length ≤ LIM then .ok (xs ++ ys) else .bad
@[irreducible] def repT {α : Type} (xs : List α) (k : Int) : E (List α) := if (lowI k && decide (xs.length * k.toNat ≤ LIM) && decide (k < 2 ^ 62) && decide (-(2 ^ 62) < k)) = true then .ok (List.replicate k.toNat xs).flatten else .bad
def nthT {α : Type} (xs : List α) (n : Nat) : E α := List.rec (motive := fun _ => Nat → E α) (fun _ => .bad) (fun x _ ih n => Nat.rec (motive := fun _ => E α) (.ok x) (fun m _ => ih m) n) xs n
@[irreducible] def idxT {α : Type} (xs : List α) (i : Int) : E α := Int.rec (motive := fun _ => E α) (fun n => nthT xs n) (fun n => bif Nat.ble (n + 1) xs.length then nthT xs (xs.length - (n + 1)) else .bad) i
def cutT {α : Type} (xs : List α) (lo hi : Option Int) : List α := (xs.drop (HT.sIx xs.length 0 lo)).take (HT.sIx xs.length xs.length hi - HT.sIx xs.length 0 lo)
@[irreducible] def limT {α : Type} (ys : List α) : E (List α) := if ys.length ≤ LIM then .ok ys else .bad
section
variable {α β γ : Type} {e : α → D} {b1 c1 b2 c2 : List Nat} {f1 f2 : Nat}
theorem ok_if {c : Prop} [Decidable c] {a b : α} (h : (if c then E.ok a else E.bad) = E.ok b) : c ∧ a = b := by
  by_cases q : c
  · rw [if_pos q] at h
    cases h
    exact ⟨q, rfl⟩
  · rw [if_neg q] at h
    cases h
theorem o_add {i j : Int} : opAdd ⟨.int i, b1, c1, f1⟩ ⟨.int j, b2, c2, f2⟩ = some ⟨eI (i + j), [], [], 0⟩ := rfl
theorem o_sub {i j : Int} : opSub ⟨.int i, b1, c1, f1⟩ ⟨.int j, b2, c2, f2⟩ = some ⟨eI (i - j), [], [], 0⟩ := rfl
theorem o_neg {i : Int} : opNeg ⟨.int i, b1, c1, f1⟩ = some ⟨eI (-i), [], [], 0⟩ := rfl
theorem o_mul {i j r : Int} (h : mulT i j = .ok r) : opMul ⟨.int i, b1, c1, f1⟩ ⟨.int j, b2, c2, f2⟩ = some ⟨eI r, [], [], 0⟩ := by
  unfold mulT at h
  obtain ⟨h1, h2⟩ := ok_if h
  show (if mulOk i j = true then some _ else none) = _
  rw [if_pos h1, ← h2]
theorem o_mulR {i j : Int} (h : lowI j = true) : opMul ⟨.int i, b1, c1, f1⟩ ⟨.int j, b2, c2, f2⟩ = some ⟨eI (i * j), [], [], 0⟩ := by
  show (if (lowI i || lowI j || _) = true then some _ else none) = _
  rw [if_pos (by rw [h, Bool.or_true, Bool.true_or])]
theorem o_mulL {i j : Int} (h : lowI i = true) : opMul ⟨.int i, b1, c1, f1⟩ ⟨.int j, b2, c2, f2⟩ = some ⟨eI (i * j), [], [], 0⟩ := by
  show (if (lowI i || lowI j || _) = true then some _ else none) = _
  rw [if_pos (by rw [h, Bool.true_or, Bool.true_or])]
theorem o_fdiv {i j r : Int} (h : fdivT i j = .ok r) : opFdiv ⟨.int i, b1, c1, f1⟩ ⟨.int j, b2, c2, f2⟩ = some ⟨eI r, [], [], 0⟩ := by
  unfold fdivT at h
  obtain ⟨h1, h2⟩ := ok_if h
  show (if _ then some _ else none) = _
  rw [if_pos h1, ← h2]
theorem o_fdivC {i j : Int} (h : (decide (j ≠ 0) && decide (j.natAbs < 1073741824)) = true) : opFdiv ⟨.int i, b1, c1, f1⟩ ⟨.int j, b2, c2, f2⟩ = some ⟨eI (i.fdiv j), [], [], 0⟩ := by
  show (if divOk j = true then some _ else none) = _
  rw [if_pos (by rw [Bool.and_eq_true] at h ⊢; exact ⟨h.1, by rw [h.2, Bool.true_or]⟩)]
theorem o_mod {i j r : Int} (h : modT i j = .ok r) : opMod ⟨.int i, b1, c1, f1⟩ ⟨.int j, b2, c2, f2⟩ = some ⟨eI r, [], [], 0⟩ := by
  unfold modT at h
  obtain ⟨h1, h2⟩ := ok_if h
  show (if _ then some _ else none) = _
  rw [if_pos h1, ← h2]
theorem o_modC {i j : Int} (h : decide (j ≠ 0) = true) : opMod ⟨.int i, b1, c1, f1⟩ ⟨.int j, b2, c2, f2⟩ = some ⟨eI (i.fmod j), [], [], 0⟩ := by
  show (if _ then some _ else none) = _
  rw [if_pos h]
theorem o_pow {i j r : Int} (h : powT i j = .ok r) : opPow ⟨.int i, b1, c1, f1⟩ ⟨.int j, b2, c2, f2⟩ = some ⟨eI r, [], [], 0⟩ := by
  unfold powT at h
  obtain ⟨h1, h2⟩ := ok_if h
  show (if _ then some _ else none) = _
  rw [if_pos h1, ← h2]
theorem o_shl {i j r : Int} (h : shlT i j = .ok r) : opShl ⟨.int i, b1, c1, f1⟩ ⟨.int j, b2, c2, f2⟩ = some ⟨eI r, [], [], 0⟩ := by
  unfold shlT at h
  obtain ⟨h1, h2⟩ := ok_if h
  show (if _ then some _ else none) = _
  rw [if_pos h1, ← h2]
theorem o_shr {i j r : Int} (h : shrT i j = .ok r) : opShr ⟨.int i, b1, c1, f1⟩ ⟨.int j, b2, c2, f2⟩ = some ⟨eI r, [], [], 0⟩ := by
  unfold shrT at h
  obtain ⟨h1, h2⟩ := ok_if h
  show (if _ then some _ else none) = _
  rw [if_pos h1, ← h2]
theorem o_addL {x y r : List α} (h : appT x y = .ok r) : opAdd ⟨eL e x, b1, c1, f1⟩ ⟨eL e y, b2, c2, f2⟩ = some ⟨eL e r, [], c1 ++ c2, 1⟩ := by
  unfold appT at h
  obtain ⟨h1, h2⟩ := ok_if h
  show (if (x.map e).length + (y.map e).length ≤ LIM then some _ else none) = _
  rw [List.length_map, List.length_map, if_pos h1, ← h2, ← List.map_append]
theorem o_addT {x y r : List α} (h : appT x y = .ok r) : opAdd ⟨eT e x, b1, c1, f1⟩ ⟨eT e y, b2, c2, f2⟩ = some ⟨eT e r, b1 ++ b2, c1 ++ c2, 0⟩ := by
  unfold appT at h
  obtain ⟨h1, h2⟩ := ok_if h
  show (if (x.map e).length + (y.map e).length ≤ LIM then some _ else none) = _
  rw [List.length_map, List.length_map, if_pos h1, ← h2, ← List.map_append]
theorem repD_map (k : Int) (x : List α) : repD k (x.map e) = ((List.replicate k.toNat x).flatten).map e := by
  unfold repD
  rw [List.map_flatten, List.map_replicate]
theorem o_rep {x r : List α} {k : Int} (h : repT x k = .ok r) : opMul ⟨eL e x, b1, c1, f1⟩ ⟨.int k, b2, c2, f2⟩ = some ⟨eL e r, [], c1, 1⟩ := by
  unfold repT at h
  obtain ⟨h1, h2⟩ := ok_if h
  show (if (lowI k && decide ((x.map e).length * k.toNat ≤ LIM) && decide (k < 2 ^ 62) && decide (-(2 ^ 62) < k)) = true then some (Z.mk (.lst (repD k (x.map e))) [] c1 1) else none) = _
  rw [List.length_map, if_pos h1, repD_map, h2]
theorem atI_map (x : List α) (i : Int) : atI (x.map e) i = (atI x i).map e := by
  unfold atI
  rw [List.length_map]
  cases ixN x.length i with
  | none => rfl
  | some j => simp
theorem nthT_eq {α : Type} : ∀ (xs : List α) (n : Nat), nthT xs n = E.ofO xs[n]?
  | [], n => rfl
  | x :: xs, 0 => rfl
  | x :: xs, n + 1 => nthT_eq xs n
theorem idxT_eq {α : Type} (xs : List α) (i : Int) : idxT xs i = E.ofO (atI xs i) := by
  unfold atI ixN idxT
  cases i with
  | ofNat n =>
    show nthT xs n = _
    rw [nthT_eq, if_pos (by show (0 : Int) ≤ (n : Int); omega)]
    show _ = E.ofO ((if (n : Int) < (xs.length : Int) then some n else none).bind fun j => xs[j]?)
    split
    · rfl
    · rw [List.getElem?_eq_none (by omega)]
      rfl
  | negSucc n =>
    show (bif Nat.ble (n + 1) xs.length then nthT xs (xs.length - (n + 1)) else .bad) = _
    rw [if_neg (by omega)]
    by_cases h : n + 1 ≤ xs.length
    · rw [Nat.ble_eq_true_of_le h, if_pos (by omega), show (Int.negSucc n + (xs.length : Int)).toNat = xs.length - (n + 1) by omega]
      exact nthT_eq _ _
    · rw [show Nat.ble (n + 1) xs.length = false from Bool.eq_false_iff.mpr fun q => h (Nat.le_of_ble_eq_true q), if_neg (by omega)]
      rfl
theorem ofO_ok {x : Option α} {r : α} (h : E.ofO x = .ok r) : x = some r := by
  cases x with
  | none => cases h
  | some a => cases h; rfl
theorem o_idxL {x : List α} {i : Int} {r : α} (h0 : idxT x i = .ok r) : opIdx ⟨eL e x, b1, c1, f1⟩ ⟨.int i, b2, c2, f2⟩ = some ⟨e r, c1, c1, 0⟩ := by
  have h := h0
  rw [idxT_eq] at h
  show (match atI (x.map e) i with | some d => some (Z.mk d c1 c1 0) | none => none) = _
  rw [atI_map, ofO_ok h]
  rfl
theorem o_idxT {x : List α} {i : Int} {r : α} (h0 : idxT x i = .ok r) : opIdx ⟨eT e x, b1, c1, f1⟩ ⟨.int i, b2, c2, f2⟩ = some ⟨e r, c1, c1, 0⟩ := by
  have h := h0
  rw [idxT_eq] at h
  show (match atI (x.map e) i with | some d => some (Z.mk d c1 c1 0) | none => none) = _
  rw [atI_map, ofO_ok h]
  rfl
theorem o_lt {i j : Int} : opLt ⟨.int i, b1, c1, f1⟩ ⟨.int j, b2, c2, f2⟩ = some (zS (.bl (decide (i < j)))) := rfl
theorem o_le {i j : Int} : opLe ⟨.int i, b1, c1, f1⟩ ⟨.int j, b2, c2, f2⟩ = some (zS (.bl (decide (i ≤ j)))) := rfl
theorem o_gt {i j : Int} : opGt ⟨.int i, b1, c1, f1⟩ ⟨.int j, b2, c2, f2⟩ = some (zS (.bl (decide (j < i)))) := rfl
theorem o_ge {i j : Int} : opGe ⟨.int i, b1, c1, f1⟩ ⟨.int j, b2, c2, f2⟩ = some (zS (.bl (decide (j ≤ i)))) := rfl
theorem o_ltT {x y : List Int} : opLt ⟨eT eI x, b1, c1, f1⟩ ⟨eT eI y, b2, c2, f2⟩ = some (zS (.bl (HT.lexLt x y))) := by
  show (match intsOf (x.map D.int), intsOf (y.map D.int) with | some m, some n => some (zS (.bl (HT.lexLt m n))) | _, _ => none) = _
  rw [intsOf_map, intsOf_map]
theorem o_isO {x : Option α} (h : ∀ a, e a ≠ .non ∧ e a ≠ .pen) : opIsN ⟨eO e x, b1, c1, f1⟩ ⟨.non, b2, c2, f2⟩ = some (zS (.bl x.isNone)) := by
  cases x with
  | none => rfl
  | some a =>
    have h := h a
    show (match e a with | .non => some (zS (.bl true)) | .pen => none | _ => some (zS (.bl false))) = _
    cases q : e a <;> first | rfl | exact absurd q h.1 | exact absurd q h.2
theorem o_isnO {x : Option α} (h : ∀ a, e a ≠ .non ∧ e a ≠ .pen) : opIsnN ⟨eO e x, b1, c1, f1⟩ ⟨.non, b2, c2, f2⟩ = some (zS (.bl x.isSome)) := by
  cases x with
  | none => rfl
  | some a =>
    have h := h a
    show (match e a with | .non => some (zS (.bl false)) | .pen => none | _ => some (zS (.bl true))) = _
    cases q : e a <;> first | rfl | exact absurd q h.1 | exact absurd q h.2
theorem o_inL [DecidableEq α] {n : Nat} (q : EqE e n) (hn : n + 1 ≤ 60) {x : α} {ys : List α} : opIn ⟨e x, b1, c1, f1⟩ ⟨eL e ys, b2, c2, f2⟩ = some (zS (.bl (decide (x ∈ ys)))) := by
  show (if (dOk (e x) 60 && dOk (.lst (ys.map e)) 60) = true then some (zS (.bl ((toPys (ys.map e)).any fun z => PyData.eqv z (toPy (e x))))) else none) = _
  rw [if_pos (by rw [dOk_mono _ (by omega) (q.ok x), dOk_mono _ hn ((qL q).ok ys)]; rfl)]
  congr 4
  induction ys with
  | nil => rfl
  | cons y ys ih =>
    show (PyData.eqv (toPy (e y)) (toPy (e x)) || (toPys (ys.map e)).any fun z => PyData.eqv z (toPy (e x))) = _
    rw [ih]
    by_cases h : y = x
    · subst h
      rw [(q.eqv y y).mpr rfl, decide_eq_true (List.mem_cons_self), Bool.true_or]
    · rw [Bool.eq_false_iff.mpr fun z => h ((q.eqv y x).mp z), Bool.false_or]
      congr 1
      simp [Ne.symm h]
theorem o_ninL [DecidableEq α] {n : Nat} (q : EqE e n) (hn : n + 1 ≤ 60) {x : α} {ys : List α} : opNin ⟨e x, b1, c1, f1⟩ ⟨eL e ys, b2, c2, f2⟩ = some (zS (.bl (!decide (x ∈ ys)))) := by
  have h := o_inL (b1 := b1) (c1 := c1) (b2 := b2) (c2 := c2) (f1 := f1) (f2 := f2) q hn (x := x) (ys := ys)
  have h : (if (dOk (e x) 60 && dOk (.lst (ys.map e)) 60) = true then some (zS (.bl ((toPys (ys.map e)).any fun z => PyData.eqv z (toPy (e x))))) else none) = some (zS (.bl (decide (x ∈ ys)))) := h
  rw [if_pos (by rw [dOk_mono _ (by omega) (q.ok x), dOk_mono _ hn ((qL q).ok ys)]; rfl)] at h
  show (if (dOk (e x) 60 && dOk (.lst (ys.map e)) 60) = true then some (zS (.bl (!(toPys (ys.map e)).any fun z => PyData.eqv z (toPy (e x))))) else none) = _
  rw [if_pos (by rw [dOk_mono _ (by omega) (q.ok x), dOk_mono _ hn ((qL q).ok ys)]; rfl)]
  have h := D.bl.inj (congrArg Z.d (Option.some.inj h))
  rw [h]
theorem inV_ints (x : Int) (ys : List Int) : inV (toV (.int x)) ((ys.map D.int).map toV) = decide (x ∈ ys) := by
  unfold inV
  induction ys with
  | nil => rfl
  | cons y ys ih =>
    show (eqV (V.int y) (V.int x) || _) = _
    rw [show (List.any _ _) = _ from ih]
    by_cases h : y = x
    · subst h
      rw [show eqV (V.int y) (V.int y) = true by simp [eqV], decide_eq_true (List.mem_cons_self), Bool.true_or]
    · rw [show eqV (V.int y) (V.int x) = false by simp [eqV, h], Bool.false_or]
      congr 1
      simp [Ne.symm h]
theorem flat_ints (ys : List Int) : (ys.map D.int).all flatD = true := by
  rw [List.all_eq_true]
  intro d h
  obtain ⟨y, _, rfl⟩ := List.mem_map.mp h
  rfl
theorem o_inT {x : Int} {ys : List Int} : opIn ⟨.int x, b1, c1, f1⟩ ⟨eT eI ys, b2, c2, f2⟩ = some (zS (.bl (decide (x ∈ ys)))) := by
  show (if (flatD (.int x) && (ys.map D.int).all flatD) = true then some (zS (.bl (inV (toV (.int x)) ((ys.map D.int).map toV)))) else none) = _
  rw [flat_ints, inV_ints]
  rfl
theorem o_ninT {x : Int} {ys : List Int} : opNin ⟨.int x, b1, c1, f1⟩ ⟨eT eI ys, b2, c2, f2⟩ = some (zS (.bl (!decide (x ∈ ys)))) := by
  show (if (flatD (.int x) && (ys.map D.int).all flatD) = true then some (zS (.bl (!inV (toV (.int x)) ((ys.map D.int).map toV)))) else none) = _
  rw [flat_ints, inV_ints]
  rfl
/-! built-ins -/
theorem o_lenL {x : List α} : biLen [⟨eL e x, b1, c1, f1⟩] = some ⟨eI x.length, [], [], 0⟩ := by
  show some (zS (.int ((x.map e).length : Int))) = _
  rw [List.length_map]
theorem o_lenT {x : List α} : biLen [⟨eT e x, b1, c1, f1⟩] = some ⟨eI x.length, [], [], 0⟩ := by
  show some (zS (.int ((x.map e).length : Int))) = _
  rw [List.length_map]
def absT (i : Int) : Int := if i < 0 then -i else i
theorem o_abs {i : Int} : biAbs [⟨.int i, b1, c1, f1⟩] = some ⟨eI (absT i), [], [], 0⟩ := rfl
def maxT (i j : Int) : Int := if j > i then j else i
def minT (i j : Int) : Int := if j < i then j else i
theorem o_max2 {i j : Int} : biMax2 [⟨.int i, b1, c1, f1⟩, ⟨.int j, b2, c2, f2⟩] = some ⟨eI (maxT i j), [], [], 0⟩ := rfl
theorem o_min2 {i j : Int} : biMin2 [⟨.int i, b1, c1, f1⟩, ⟨.int j, b2, c2, f2⟩] = some ⟨eI (minT i j), [], [], 0⟩ := rfl
theorem o_int {i : Int} : biInt [⟨.int i, b1, c1, f1⟩] = some ⟨eI i, [], [], 0⟩ := rfl
theorem o_intB {b : Bool} : biInt [⟨.bl b, b1, c1, f1⟩] = some ⟨eI (if b then 1 else 0), [], [], 0⟩ := rfl
theorem o_sum {x : List Int} : biSum [⟨eL eI x, b1, c1, f1⟩] = some ⟨eI x.sum, [], [], 0⟩ := by
  show (match intsOf (x.map D.int) with | some ns => some (zS (.int ns.sum)) | none => none) = _
  rw [intsOf_map]
theorem o_sumT {x : List Int} : biSum [⟨eT eI x, b1, c1, f1⟩] = some ⟨eI x.sum, [], [], 0⟩ := by
  show (match intsOf (x.map D.int) with | some ns => some (zS (.int ns.sum)) | none => none) = _
  rw [intsOf_map]
theorem o_all {x : List Bool} : biAll [⟨eL eB x, b1, c1, f1⟩] = some ⟨eB (x.all id), [], [], 0⟩ := by
  show (match blsOf (x.map D.bl) with | some ns => some (zS (.bl (ns.all id))) | none => none) = _
  rw [blsOf_map]
theorem o_any {x : List Bool} : biAny [⟨eL eB x, b1, c1, f1⟩] = some ⟨eB (x.any id), [], [], 0⟩ := by
  show (match blsOf (x.map D.bl) with | some ns => some (zS (.bl (ns.any id))) | none => none) = _
  rw [blsOf_map]
theorem o_listL {x : List α} : biList [⟨eL e x, b1, c1, f1⟩] = some ⟨eL e x, [], c1, 1⟩ := rfl
theorem o_listT {x : List α} : biList [⟨eT e x, b1, c1, f1⟩] = some ⟨eL e x, [], c1, 1⟩ := rfl
theorem o_tupL {x : List α} : biTuple [⟨eL e x, b1, c1, f1⟩] = some ⟨eT e x, [], c1, 0⟩ := rfl
theorem o_tupT {x : List α} : biTuple [⟨eT e x, b1, c1, f1⟩] = some ⟨eT e x, b1, c1, 0⟩ := rfl
theorem o_sorted {x : List Int} : biSorted [⟨eL eI x, b1, c1, f1⟩] = some ⟨eL eI (sortI x), [], [], 1⟩ := by
  show (match intsOf (x.map D.int) with | some ns => some (Z.mk (.lst ((sortI ns).map .int)) [] [] 1) | none => none) = _
  rw [intsOf_map]
@[irreducible] def sortSetT (x : List Int) : E (List Int) := if decide (x.length < 64) = true then .ok (sortS x) else .bad
theorem o_sortSetL {x r : List Int} (h : sortSetT x = .ok r) : biSortSet [⟨eL eI x, b1, c1, f1⟩] = some ⟨eL eI r, [], [], 1⟩ := by
  unfold sortSetT at h
  obtain ⟨h1, rfl⟩ := ok_if h
  show (match intsOf (x.map D.int) with | some ns => if decide (ns.length < 64) = true then some (Z.mk (.lst ((sortS ns).map .int)) [] [] 1) else none | none => none) = _
  rw [intsOf_map]
  show (if decide (x.length < 64) = true then some (Z.mk (.lst ((sortS x).map .int)) [] [] 1) else none) = _
  rw [if_pos h1]
theorem o_sortSetT {x r : List Int} (h : sortSetT x = .ok r) : biSortSet [⟨eT eI x, b1, c1, f1⟩] = some ⟨eL eI r, [], [], 1⟩ := by
  unfold sortSetT at h
  obtain ⟨h1, rfl⟩ := ok_if h
  show (match intsOf (x.map D.int) with | some ns => if decide (ns.length < 64) = true then some (Z.mk (.lst ((sortS ns).map .int)) [] [] 1) else none | none => none) = _
  rw [intsOf_map]
  show (if decide (x.length < 64) = true then some (Z.mk (.lst ((sortS x).map .int)) [] [] 1) else none) = _
  rw [if_pos h1]
theorem cut_map (x : List α) (lo hi : Option Int) : cutD (x.map e) lo hi = (cutT x lo hi).map e := by
  unfold cutD cutT
  rw [List.length_map, List.map_take, List.map_drop]
end

/-! ### slices -/
section
variable {F : Type → Type} [CM F] {α β γ : Type} {ρ : Env} {p : Option Pen} {m f g : M Z} {e1 : α → D} {e2 : β → D} {e3 : γ → D} {b1 c1 b2 c2 b3 c3 : List Nat} {f1 f2 f3 : Nat}
theorem p_no : OR (F := F) (CM.pure none) (eNoPart ρ p) p := by
  unfold OR
  rw [CM.run_ret]
  rfl
theorem p_int {t : F Int} (h : XR t eI b1 c1 f1 (f ρ p) p) : OR (CM.bind t fun i => CM.pure (some i)) (ePart f ρ p) p := by
  unfold XR at h
  unfold OR
  rw [CM.run_bind]
  generalize CM.run t p = x at h ⊢
  rcases x with ⟨a | ⟨k, fs⟩ | _, p1⟩
  · have h : f ρ p = _ := h
    simp only [CM.run_ret]
    show (f ρ p).bind _ = _
    rw [h]
    rfl
  · have h : f ρ p = _ := h
    show (f ρ p).bind _ = _
    rw [h]
    rfl
  · trivial
theorem OR.bindX {t : F (Option Int)} {k : Option Int → F β} {o : R (Option Int)} (h : OR t o p) {G : Option Int → Option Pen → R Z} {enc' : β → D} {b' c' : List Nat} {f' : Nat}
    (g : ∀ a p1, XR (k a) enc' b' c' f' (G a p1) p1) : XR (CM.bind t k) enc' b' c' f' (o.bind G) p := by
  unfold OR at h
  unfold XR
  rw [CM.run_bind]
  generalize CM.run t p = x at h ⊢
  rcases x with ⟨a | ⟨k, fs⟩ | _, p1⟩
  · have h : o = _ := h
    rw [h]
    exact g a p1
  · have h : o = _ := h
    rw [h]
    exact rfl
  · trivial
theorem x_cutL {l h : M (Option Int)} {e : γ → D} {t : F (List γ)} {tl th : F (Option Int)} (h1 : XR t (eL e) b1 c1 f1 (f ρ p) p) (hl : ∀ p, OR tl (l ρ p) p) (hh : ∀ p, OR th (h ρ p) p) :
    XR (CM.bind t fun x => CM.bind tl fun lo => CM.bind th fun hi => CM.pure (cutT x lo hi)) (eL e) [] c1 1 (eSlice f l h ρ p) p :=
  h1.bind fun a p1 => (hl p1).bindX fun lo p2 => (hh p2).bindX fun hi p3 => x_pure (by
    show R.ok (Z.mk (.lst (cutD (a.map e) lo hi)) [] c1 1) p3 = _
    rw [cut_map])
theorem x_cutT {l h : M (Option Int)} {e : γ → D} {t : F (List γ)} {tl th : F (Option Int)} (h1 : XR t (eT e) b1 c1 f1 (f ρ p) p) (hl : ∀ p, OR tl (l ρ p) p) (hh : ∀ p, OR th (h ρ p) p) :
    XR (CM.bind t fun x => CM.bind tl fun lo => CM.bind th fun hi => CM.pure (cutT x lo hi)) (eT e) b1 c1 0 (eSlice f l h ρ p) p :=
  h1.bind fun a p1 => (hl p1).bindX fun lo p2 => (hh p2).bindX fun hi p3 => x_pure (by
    show R.ok (Z.mk (.tup (cutD (a.map e) lo hi)) b1 c1 0) p3 = _
    rw [cut_map])

/-! ### what is gone through -/
def rgT (lo c : Int) (n : Nat) : List Int := Nat.rec (motive := fun _ => Int → List Int) (fun _ => []) (fun _ ih lo => lo :: ih (lo + c)) n lo
theorem rgT_map : ∀ (n : Nat) (lo c : Int), rangeD lo c n = (rgT lo c n).map D.int
  | 0, _, _ => rfl
  | n + 1, lo, c => by
    show _ :: rangeD (lo + c) c n = _ :: (rgT (lo + c) c n).map D.int
    rw [rgT_map n]
@[irreducible] def rng2T (i j : Int) : E (List Int) := if -(2 ^ 62) ≤ i ∧ i < 2 ^ 62 ∧ -(2 ^ 62) ≤ j ∧ j < 2 ^ 62 then .ok (rgT i 1 (j - i).toNat) else .bad
@[irreducible] def rng3T (i j c : Int) : E (List Int) :=
  if c ≠ 0 ∧ c.natAbs < 1073741824 ∧ Builtin.Range.small i j c = true ∧ Builtin.Range.rangeSize i j c = ((Builtin.Range.rangeSize i j c).toNat : Int) then .ok (rgT i c (Builtin.Range.rangeSize i j c).toNat) else .bad
theorem rng2_of {i j : Int} {r : List Int} (h : rng2T i j = .ok r) : rng2 i j = some (r.map D.int, []) := by
  unfold rng2T at h
  obtain ⟨h1, rfl⟩ := ok_if h
  unfold rng2
  rw [if_pos h1, rgT_map]
theorem rng3_of {i j c : Int} {r : List Int} (h : rng3T i j c = .ok r) : rng3 i j c = some (r.map D.int, []) := by
  unfold rng3T at h
  obtain ⟨h1, rfl⟩ := ok_if h
  unfold rng3
  rw [if_pos h1, rgT_map]
theorem i_R {G : M (List Z)} {op : List Z → Option (List D × List Nat)} {t : F α} {zs : α → List Z} {e : β → D} {js : List Nat} {w : α → E (List β)} (h : AR t zs (G ρ p) p) (ho : ∀ a r, w a = .ok r → op (zs a) = some (r.map e, js)) (hx : ∀ a k fs, w a ≠ .exc k fs) :
    IR (CM.bind t fun a => CM.ret (w a)) e js (iR op G ρ p) p := by
  refine h.bindI fun a p1 => ?_
  unfold IR
  rw [CM.run_ret]
  cases q : w a with
  | ok r =>
    show (match op (zs a) with | some x => R.ok x p1 | none => R.bad) = _
    rw [ho a r q]
  | exc k fs => exact absurd q (hx a k fs)
  | bad => trivial
theorem if_nx {c : Prop} [Decidable c] {a : α} {k : Nat} {fs : List D} : (if c then E.ok a else E.bad) ≠ .exc k fs := by
  split <;> exact fun h => nomatch h
theorem i_rng1 {G : M (List Z)} {t : F Int} (h : AR t (fun x => [⟨eI x, b1, c1, f1⟩]) (G ρ p) p) : IR (CM.bind t fun a => CM.ret (rng2T 0 a)) eI [] (iR opRng1 G ρ p) p :=
  i_R h (fun a r q => rng2_of q) fun _ _ _ => by unfold rng2T; exact if_nx
theorem i_rng2 {G : M (List Z)} {t : F (Int × Int)} (h : AR t (fun x => [⟨eI x.1, b1, c1, f1⟩, ⟨eI x.2, b2, c2, f2⟩]) (G ρ p) p) : IR (CM.bind t fun a => CM.ret (rng2T a.1 a.2)) eI [] (iR opRng2 G ρ p) p :=
  i_R h (fun a r q => rng2_of q) fun _ _ _ => by unfold rng2T; exact if_nx
theorem i_rng3 {G : M (List Z)} {t : F (Int × Int × Int)} (h : AR t (fun x => [⟨eI x.1, b1, c1, f1⟩, ⟨eI x.2.1, b2, c2, f2⟩, ⟨eI x.2.2, b3, c3, f3⟩]) (G ρ p) p) : IR (CM.bind t fun a => CM.ret (rng3T a.1 a.2.1 a.2.2)) eI [] (iR opRng3 G ρ p) p :=
  i_R h (fun a r q => rng3_of q) fun _ _ _ => by unfold rng3T; exact if_nx
theorem ok_nx {a : α} {k : Nat} {fs : List D} : E.ok a ≠ .exc k fs := fun h => nomatch h
def enumT (i : Int) (xs : List α) : List (Int × α) := List.rec (motive := fun _ => Int → List (Int × α)) (fun _ => []) (fun x _ ih i => (i, x) :: ih (i + 1)) xs i
theorem enumT_map (e : α → D) : ∀ (xs : List α) (i : Nat), enumD i (xs.map e) = (enumT (i : Int) xs).map (eP2 eI e)
  | [], _ => rfl
  | x :: xs, i => by
    show _ :: enumD (i + 1) (xs.map e) = _ :: (enumT ((i : Int) + 1) xs).map _
    rw [enumT_map e xs (i + 1)]
    rfl
theorem i_enum {G : M (List Z)} {e : α → D} {t : F (List α)} (h : AR t (fun x => [⟨eL e x, b1, c1, f1⟩]) (G ρ p) p) : IR (CM.bind t fun a => CM.pure (enumT 0 a)) (eP2 eI e) (b1 ++ c1) (iR opEnum G ρ p) p :=
  i_R (w := fun a => .ok (enumT 0 a)) h (fun a r q => by
    cases q
    show some (enumD 0 (a.map e), _) = _
    rw [enumT_map]
    rfl) fun _ _ _ => ok_nx
theorem zipT_map (e : α → D) (f : β → D) : ∀ (xs : List α) (ys : List β), zipD (xs.map e) (ys.map f) = (xs.zip ys).map (eP2 e f)
  | [], ys => by cases ys <;> rfl
  | x :: xs, [] => rfl
  | x :: xs, y :: ys => by
    show _ :: zipD (xs.map e) (ys.map f) = _ :: (xs.zip ys).map _
    rw [zipT_map e f xs ys]
theorem i_zipL {G : M (List Z)} {e : α → D} {e' : β → D} {t : F (List α × List β)} (h : AR t (fun x => [⟨eL e x.1, b1, c1, f1⟩, ⟨eL e' x.2, b2, c2, f2⟩]) (G ρ p) p) : IR (CM.bind t fun a => CM.pure (a.1.zip a.2)) (eP2 e e') ((b1 ++ c1) ++ (b2 ++ c2)) (iR opZip G ρ p) p :=
  i_R (w := fun a => .ok (a.1.zip a.2)) h (fun a r q => by
    cases q
    show some (zipD (a.1.map e) (a.2.map e'), _) = _
    rw [zipT_map]) fun _ _ _ => ok_nx
theorem i_zipT {G : M (List Z)} {e : α → D} {e' : β → D} {t : F (List α × List β)} (h : AR t (fun x => [⟨eT e x.1, b1, c1, f1⟩, ⟨eT e' x.2, b2, c2, f2⟩]) (G ρ p) p) : IR (CM.bind t fun a => CM.pure (a.1.zip a.2)) (eP2 e e') ((b1 ++ c1) ++ (b2 ++ c2)) (iR opZip G ρ p) p :=
  i_R (w := fun a => .ok (a.1.zip a.2)) h (fun a r q => by
    cases q
    show some (zipD (a.1.map e) (a.2.map e'), _) = _
    rw [zipT_map]) fun _ _ _ => ok_nx
theorem i_L {e : α → D} {t : F (List α)} (h : XR t (eL e) b1 c1 f1 (f ρ p) p) : IR t e (b1 ++ c1) (iX f ρ p) p := by
  unfold XR at h
  unfold IR
  generalize CM.run t p = x at h ⊢
  rcases x with ⟨a | ⟨k, fs⟩ | _, p1⟩
  · have h : f ρ p = _ := h
    show (f ρ p).bind _ = _
    rw [h]
    rfl
  · have h : f ρ p = _ := h
    show (f ρ p).bind _ = _
    rw [h]
    rfl
  · trivial
theorem i_T {e : α → D} {t : F (List α)} (h : XR t (eT e) b1 c1 f1 (f ρ p) p) : IR t e (b1 ++ c1) (iX f ρ p) p := by
  unfold XR at h
  unfold IR
  generalize CM.run t p = x at h ⊢
  rcases x with ⟨a | ⟨k, fs⟩ | _, p1⟩
  · have h : f ρ p = _ := h
    show (f ρ p).bind _ = _
    rw [h]
    rfl
  · have h : f ρ p = _ := h
    show (f ρ p).bind _ = _
    rw [h]
    rfl
  · trivial

/-! ### comprehensions -/
def lcT {F : Type → Type} [CM F] {α β : Type} (ft : α → F Bool) (ge : α → F β) (xs : List α) : F (List β) :=
  List.rec (motive := fun _ => F (List β)) (CM.pure []) (fun x _ ih => CM.bindB (ft x) fun b => bif b then CM.bindB (ge x) fun y => CM.bindB ih fun ys => CM.pure (y :: ys) else ih) xs
/-- the results' trees and what they hold -/
theorem lc_run {n n' : Nat} {tm : TM} {tt te : M Z} {ρw : Env} {e : α → D} {e' : β → D} {ft : α → F Bool} {ge : α → F β} {ρ1 : α → Env} (htm : ∀ a, tm (e a) ρw = some (ρ1 a)) (ht : ∀ a p, CR (ft a) (tt (ρ1 a) p) p) (he : ∀ a p, XR (ge a) e' [] [] n' (te (ρ1 a) p) p) (hn : n = 0 ∨ n' = n) :
    ∀ (xs : List α) (p : Option Pen), match CM.run (lcT ft ge xs) p with
      | (.ok ys, p1) => lcO n tm tt te ρw (xs.map e) p = .ok (ys.map fun y => ⟨e' y, [], [], n'⟩) p1
      | _ => True
  | [], p => by
    show match CM.run (F := F) (CM.pure ([] : List β)) p with | (.ok ys, p1) => _ | _ => True
    rw [CM.run_ret]
    rfl
  | x :: xs, p => by
    show match CM.run (F := F) (CM.bindB (ft x) fun b => bif b then CM.bindB (ge x) fun y => CM.bindB (lcT ft ge xs) fun ys => CM.pure (y :: ys) else lcT ft ge xs) p with
      | (.ok ys, p1) => (match tm (e x) ρw with | none => R.bad | some ρ1 => _) = R.ok (ys.map fun y => Z.mk (e' y) [] [] n') p1
      | _ => True
    rw [htm x, CM.run_bindB]
    have h1 := ht x p
    unfold CR at h1
    generalize CM.run (ft x) p = y at h1 ⊢
    rcases y with ⟨b | ⟨k, fs⟩ | _, p1⟩
    · obtain ⟨z, h1, hz⟩ := h1
      dsimp only
      rw [h1]
      dsimp only
      rw [hz]
      cases b with
      | false => exact lc_run htm ht he hn xs p1
      | true =>
        dsimp only [cond_true]
        rw [CM.run_bindB]
        have h2 := he x p1
        unfold XR at h2
        generalize CM.run (ge x) p1 = y at h2 ⊢
        rcases y with ⟨b | ⟨k, fs⟩ | _, p2⟩
        · have h2 : te _ _ = _ := h2
          dsimp only
          rw [h2, CM.run_bindB]
          dsimp only
          rw [if_pos hn]
          have h3 := lc_run htm ht he hn xs p2
          generalize CM.run (lcT ft ge xs) p2 = y at h3 ⊢
          rcases y with ⟨ys | ⟨k, fs⟩ | _, p3⟩
          · have h3 : lcO _ _ _ _ _ _ _ = _ := h3
            simp only [CM.run_ret]
            rw [h3]
            rfl
          · trivial
          · trivial
        · trivial
        · trivial
    · trivial
    · trivial
theorem flat_nil {e' : β → D} {n' : Nat} : ∀ ys : List β, (ys.map fun y => Z.mk (e' y) [] [] n').flatMap (·.lo) = []
  | [] => rfl
  | y :: ys => by
    show ([] ++ []) ++ (ys.map fun y => Z.mk (e' y) [] [] n').flatMap (·.lo) = []
    rw [flat_nil ys]
    rfl
theorem x_lc {n n' : Nat} {vs js : List Nat} {mi : IM} {tm : TM} {tt te : M Z} {e : α → D} {e' : β → D} {t : F (List α)} {ft : α → F Bool} {ge : α → F β} {ρ1 : α → Env} (hi : IR t e js (mi ρ p) p) (hw : wOk (frz js ρ) vs = true) (htm : ∀ a, tm (e a) (wipeE (frz js ρ) vs) = some (ρ1 a)) (ht : ∀ a p, CR (ft a) (tt (ρ1 a) p) p) (he : ∀ a p, XR (ge a) e' [] [] n' (te (ρ1 a) p) p) (hn : n = 0 ∨ n' = n) :
    XR (CM.bind t fun xs => CM.bindB (lcT ft ge xs) fun ys => CM.ret (limT ys)) (eL e') [] js (n + 1) (eLc n vs mi tm tt te ρ p) p := by
  refine hi.bindX fun xs p1 => ?_
  have h := lc_run htm ht he hn xs p1
  unfold XR
  rw [CM.run_bindB]
  generalize CM.run (lcT ft ge xs) p1 = y at h ⊢
  rcases y with ⟨ys | ⟨k, fs⟩ | _, p2⟩
  · have h : lcO _ _ _ _ _ _ _ = _ := h
    simp only [CM.run_ret]
    unfold limT
    split
    · rename_i a q r heq
      have heq := Prod.mk.inj heq
      obtain ⟨l, rfl⟩ := ok_if heq.1
      obtain rfl := heq.2
      show (if wOk (frz js ρ) vs = true then (match lcO n tm tt te (wipeE (frz js ρ) vs) (xs.map e) p1 with | .ok zs p2 => if zs.length ≤ LIM then R.ok (Z.mk (.lst (zs.map fun z : Z => z.d)) [] (lcC zs js) (n + 1)) p2 else .bad | _ => .bad) else .bad) = _
      rw [if_pos hw, h]
      show (if (ys.map fun y => Z.mk (e' y) [] [] n').length ≤ LIM then R.ok _ p2 else _) = _
      rw [List.length_map, if_pos l]
      unfold lcC
      rw [flat_nil, List.nil_append, List.map_map]
      rfl
    · rename_i k fs q heq
      exact absurd (Prod.mk.inj heq).1 if_nx
    · trivial
  · trivial
  · trivial
/-- a made list of bools, ints ..: no more to be said of its parts -/
theorem c_true : CR (F := F) (CM.pure true) (eC (.bl true) ρ p) p := c_pure rfl rfl
end
end
end DL
set_option Elab.async false
set_option linter.all false
set_option maxRecDepth 100000
set_option maxHeartbeats 4000000
/-! # The typed layer, part 3: statements -/
namespace DL
open PySem PySem.Spec PyProof.Rows L2
noncomputable section

def bindF {F : Type → Type} [CM F] {σ τ κ r : Type} (t : F (Fl σ κ r)) (k : σ → F (Fl τ κ r)) : F (Fl τ κ r) :=
  CM.bind t fun x => Fl.rec (motive := fun _ => F (Fl τ κ r)) (fun s => k s) (fun s => CM.pure (.brk s)) (fun s => CM.pure (.cnt s)) (fun x => CM.pure (.ret x)) x
def oSeq (o : O) (m : SM) : O := match o with | .nx ρ p => m ρ p | o => o
section
variable {F : Type → Type} [CM F] {α β σ τ κ r : Type} {ρ : Env} {p : Option Pen} {I : σ → Env → Prop} {K : κ → Env → Prop} {er : r → D} {fr : Nat}
theorem thenO_seq {α : Type} {x : R α} {G : α → Option Pen → O} {m : SM} : oSeq (x.thenO G) m = x.thenO fun z p1 => oSeq (G z p1) m := by
  cases x <;> rfl
theorem s_of {t : F (Fl σ κ r)} {m : SM} (h : SR t I K er fr (sSeq m sPass ρ p) p) : SR t I K er fr (m ρ p) p := by
  have e : sSeq m sPass ρ p = m ρ p := by
    show (match m ρ p with | .nx ρ1 p1 => O.nx ρ1 p1 | o => o) = _
    cases m ρ p <;> rfl
  rw [← e]
  exact h
theorem s_end {s : σ} (h : I s ρ) : SR (F := F) (CM.pure (.nx s)) I K er fr (sPass ρ p) p := by
  unfold SR
  rw [CM.run_ret]
  exact ⟨ρ, rfl, h⟩
theorem s_pass {t : F (Fl σ κ r)} {m : SM} (h : SR t I K er fr (m ρ p) p) : SR t I K er fr (sSeq sPass m ρ p) p := h
theorem s_seq {t : F (Fl τ κ r)} {J : τ → Env → Prop} {k : τ → F (Fl σ κ r)} {o : O} {m : SM} (h : SR t J K er fr o p) (g : ∀ s ρ p, J s ρ → SR (k s) I K er fr (m ρ p) p) : SR (bindF t k) I K er fr (oSeq o m) p := by
  unfold SR at h
  unfold SR bindF
  rw [CM.run_bind]
  generalize CM.run t p = x at h ⊢
  rcases x with ⟨a | ⟨k, fs⟩ | _, p1⟩
  · cases a with
    | nx s =>
      obtain ⟨ρ1, rfl, h⟩ := h
      exact g s ρ1 p1 h
    | brk s =>
      obtain ⟨ρ1, rfl, h⟩ := h
      simp only [CM.run_ret]
      exact ⟨ρ1, rfl, h⟩
    | cnt s =>
      obtain ⟨ρ1, rfl, h⟩ := h
      simp only [CM.run_ret]
      exact ⟨ρ1, rfl, h⟩
    | ret x =>
      have h : o = _ := h
      rw [h]
      simp only [CM.run_ret]
      rfl
  · have h : o = _ := h
    rw [h]
    exact rfl
  · trivial
/-- no way leads on -/
theorem s_out {t : F (Fl σ κ r)} {o : O} {m : SM} (h : SR t (fun _ _ => False) K er fr o p) : SR t I K er fr (oSeq o m) p := by
  unfold SR at h ⊢
  generalize CM.run t p = x at h ⊢
  rcases x with ⟨a | ⟨k, fs⟩ | _, p1⟩
  · cases a with
    | nx s =>
      obtain ⟨ρ1, _, h⟩ := h
      exact h.elim
    | brk s =>
      obtain ⟨ρ1, rfl, h⟩ := h
      exact ⟨ρ1, rfl, h⟩
    | cnt s =>
      obtain ⟨ρ1, rfl, h⟩ := h
      exact ⟨ρ1, rfl, h⟩
    | ret x =>
      have h : o = _ := h
      rw [h]
      rfl
  · have h : o = _ := h
    rw [h]
    rfl
  · trivial
/-! ### single statements -/
theorem s_asg {t : F α} {k : α → F (Fl σ κ r)} {enc : α → D} {b c : List Nat} {f i : Nat} {e : M Z} {m : SM} {ρ' : α → Env} (h : XR t enc b c f (e ρ p) p) (hi : i < ρ.length) (hρ : ∀ a, asgN i ⟨enc a, b, c, f⟩ ρ = ρ' a) (g : ∀ a p, SR (k a) I K er fr (m (ρ' a) p) p) :
    SR (CM.bind t k) I K er fr (sSeq (sAsg i e) m ρ p) p := by
  show SR _ I K er fr (oSeq ((e ρ p).thenO _) m) p
  rw [thenO_seq]
  refine h.thenS fun a p1 => ?_
  show SR _ I K er fr (oSeq (if i < ρ.length then .nx (asgN i _ ρ) p1 else .bad) m) p1
  rw [if_pos hi, hρ a]
  exact g a p1
theorem s_drop {t : F α} {k : α → F (Fl σ κ r)} {enc : α → D} {b c : List Nat} {f : Nat} {e : M Z} {m : SM} (h : XR t enc b c f (e ρ p) p) (g : ∀ a p, SR (k a) I K er fr (m ρ p) p) :
    SR (CM.bind t k) I K er fr (sSeq (sDrop e) m ρ p) p := by
  show SR _ I K er fr (oSeq ((e ρ p).thenO _) m) p
  rw [thenO_seq]
  exact h.thenS fun a p1 => g a p1
theorem s_if {t : F Bool} {t1 t2 : F (Fl τ κ r)} {J : τ → Env → Prop} {k : τ → F (Fl σ κ r)} {c : M Z} {a b m : SM} (h : CR t (c ρ p) p) (h1 : ∀ p, SR t1 J K er fr (a ρ p) p) (h2 : ∀ p, SR t2 J K er fr (b ρ p) p) (g : ∀ s ρ p, J s ρ → SR (k s) I K er fr (m ρ p) p) :
    SR (CM.bind t fun x => bindF (bif x then t1 else t2) k) I K er fr (sSeq (sIf c a b) m ρ p) p := by
  show SR _ I K er fr (oSeq ((c ρ p).thenO _) m) p
  rw [thenO_seq]
  refine h.thenS fun x z p1 hz => ?_
  rw [hz]
  cases x with
  | true => exact s_seq (h1 p1) g
  | false => exact s_seq (h2 p1) g
/-- the first way leads out -/
theorem s_ifO {t : F Bool} {t1 t2 : F (Fl σ κ r)} {c : M Z} {a b m : SM} (h : CR t (c ρ p) p) (h1 : ∀ p, SR t1 (fun _ _ => False) K er fr (a ρ p) p) (h2 : ∀ p, SR t2 I K er fr (sSeq b m ρ p) p) :
    SR (CM.bind t fun x => bif x then t1 else t2) I K er fr (sSeq (sIf c a b) m ρ p) p := by
  show SR _ I K er fr (oSeq ((c ρ p).thenO _) m) p
  rw [thenO_seq]
  refine h.thenS fun x z p1 hz => ?_
  rw [hz]
  cases x with
  | true => exact s_out (h1 p1)
  | false => exact h2 p1
/-- the second way leads out -/
theorem s_ifP {t : F Bool} {t1 t2 : F (Fl σ κ r)} {c : M Z} {a b m : SM} (h : CR t (c ρ p) p) (h1 : ∀ p, SR t1 I K er fr (sSeq a m ρ p) p) (h2 : ∀ p, SR t2 (fun _ _ => False) K er fr (b ρ p) p) :
    SR (CM.bind t fun x => bif x then t1 else t2) I K er fr (sSeq (sIf c a b) m ρ p) p := by
  show SR _ I K er fr (oSeq ((c ρ p).thenO _) m) p
  rw [thenO_seq]
  refine h.thenS fun x z p1 hz => ?_
  rw [hz]
  cases x with
  | true => exact h1 p1
  | false => exact s_out (h2 p1)
theorem s_ret {t : F α} {k : α → r} {enc : α → D} {b c : List Nat} {e : M Z} {m : SM} (h : XR t enc b c fr (e ρ p) p) (hk : ∀ a, er (k a) = enc a) : SR (CM.bind t fun a => CM.pure (.ret (k a))) I K er fr (sSeq (sRet e) m ρ p) p := by
  show SR _ I K er fr (oSeq ((e ρ p).thenO _) m) p
  rw [thenO_seq]
  refine h.thenS fun a p1 => ?_
  unfold SR
  rw [CM.run_ret]
  show O.ret ⟨enc a, [], [], fr⟩ p1 = O.ret ⟨er (k a), [], [], fr⟩ p1
  rw [hk a]
theorem s_retV {i : Nat} {x : r} {m : SM} (h : ρ[i]? = some (some ⟨er x, fr⟩)) : SR (F := F) (CM.pure (.ret x)) I K er fr (sSeq (sRetV i) m ρ p) p := by
  unfold SR
  rw [CM.run_ret]
  show oSeq (match ρ[i]? with | some (some c) => .ret ⟨c.d, [], [], c.o⟩ p | _ => .bad) m = _
  rw [h]
  rfl
theorem s_retN {x : r} {m : SM} (h : er x = .non) (hf : fr = 0) : SR (F := F) (CM.pure (.ret x)) I K er fr (sSeq sRetN m ρ p) p := by
  unfold SR
  rw [CM.run_ret]
  subst hf
  show O.ret ⟨.non, [], [], 0⟩ p = O.ret ⟨er x, [], [], 0⟩ p
  rw [h]
theorem s_raise {t : F α} {zs : α → List Z} {w : α → List D} {c n : Nat} {G : M (List Z)} {m : SM} (h : AR t zs (G ρ p) p) (hn : ∀ a, (zs a).length = n) (hw : ∀ a, ((zs a).map (·.d)).reverse = w a) : SR (CM.bind t fun a => CM.ret (.exc c (w a))) I K er fr (sSeq (sRaise c n G) m ρ p) p := by
  show SR _ I K er fr (oSeq ((G ρ p).thenO _) m) p
  rw [thenO_seq]
  refine h.thenS fun a p1 => ?_
  unfold SR
  rw [CM.run_ret]
  show oSeq (if (zs a).length = n then .exc c ((zs a).map (·.d)).reverse p1 else .bad) m = _
  rw [if_pos (hn a), hw a]
  rfl
theorem s_brk {s : κ} {m : SM} (h : K s ρ) : SR (F := F) (CM.pure (.brk s)) I K er fr (sSeq sBrk m ρ p) p := by
  unfold SR
  rw [CM.run_ret]
  exact ⟨ρ, rfl, h⟩
theorem s_cnt {s : κ} {m : SM} (h : K s ρ) : SR (F := F) (CM.pure (.cnt s)) I K er fr (sSeq sCnt m ρ p) p := by
  unfold SR
  rw [CM.run_ret]
  exact ⟨ρ, rfl, h⟩
theorem s_aug {i o : Nat} {a : Int} {g : Int → Int → Int} {t : F Int} {k : Int → F (Fl σ κ r)} {b c : List Nat} {f : Nat} {e : M Z} {m : SM} {ρ' : Int → Env} (h : XR t eI b c f (e ρ p) p) (ha : ρ[i]? = some (some ⟨.int a, o⟩)) (hρ : ∀ x, asgN i (zS (.int (g a x))) ρ = ρ' (g a x)) (q : ∀ x p, SR (k x) I K er fr (m (ρ' x) p) p) :
    SR (CM.bind t fun x => k (g a x)) I K er fr (sSeq (sAug i g e) m ρ p) p := by
  show SR _ I K er fr (oSeq (match ρ[i]? with | some (some c) => _ | _ => _) m) p
  rw [ha]
  show SR _ I K er fr (oSeq ((e ρ p).thenO _) m) p
  rw [thenO_seq]
  refine h.thenS fun x p1 => ?_
  show SR _ I K er fr (m (asgN i (zS (.int (g a x))) ρ) p1) p1
  rw [hρ]
  exact q _ p1
/-! ### loops -/
def forT {F : Type → Type} [CM F] {α σ r : Type} (tb : σ → α → F (Fl σ σ r)) (xs : List α) (s : σ) : F (Fl σ κ r) :=
  List.rec (motive := fun _ => σ → F (Fl σ κ r)) (fun s => CM.pure (.nx s)) (fun x _ ih s => CM.bind (tb s x) fun o => Fl.rec (motive := fun _ => F (Fl σ κ r)) (fun s => ih s) (fun s => CM.pure (.nx s)) (fun s => ih s) (fun x => CM.pure (.ret x)) o) xs s
theorem for_run {I : σ → Env → Prop} {tb : σ → α → F (Fl σ σ r)} {e : α → D} {tm : TM} {b : SM} (hb : ∀ s x ρ p, I s ρ → ∃ ρ1, tm (e x) ρ = some ρ1 ∧ SR (tb s x) I I er fr (b ρ1 p) p) :
    ∀ (xs : List α) (s : σ) (ρ : Env) (p : Option Pen), I s ρ → SR (forT tb xs s) I K er fr (loopO tm b (xs.map e) ρ p) p
  | [], s, ρ, p, h => s_end h
  | x :: xs, s, ρ, p, h => by
    obtain ⟨ρ1, e1, e2⟩ := hb s x ρ p h
    show SR _ I K er fr (match tm (e x) ρ with | none => .bad | some ρ1 => _) p
    rw [e1]
    unfold SR at e2
    show SR (CM.bind (tb s x) fun o => Fl.rec (motive := fun _ => F (Fl σ κ r)) (fun s => forT tb xs s) (fun s => CM.pure (.nx s)) (fun s => forT tb xs s) (fun x => CM.pure (.ret x)) o) I K er fr _ p
    unfold SR
    rw [CM.run_bind]
    generalize CM.run (tb s x) p = y at e2 ⊢
    rcases y with ⟨a | ⟨k, fs⟩ | _, p1⟩
    · cases a with
      | nx s =>
        obtain ⟨ρ2, e2, h2⟩ := e2
        dsimp only
        rw [e2]
        exact for_run hb xs s ρ2 p1 h2
      | cnt s =>
        obtain ⟨ρ2, e2, h2⟩ := e2
        dsimp only
        rw [e2]
        exact for_run hb xs s ρ2 p1 h2
      | brk s =>
        obtain ⟨ρ2, e2, h2⟩ := e2
        dsimp only
        rw [e2]
        simp only [CM.run_ret]
        exact ⟨ρ2, rfl, h2⟩
      | ret x =>
        have e2 : b ρ1 p = _ := e2
        dsimp only
        rw [e2]
        simp only [CM.run_ret]
    · have e2 : b ρ1 p = _ := e2
      dsimp only
      rw [e2]
    · trivial
theorem s_for {J : τ → Env → Prop} {t : F (List α)} {e : α → D} {js : List Nat} {mi : IM} {tb : τ → α → F (Fl τ τ r)} {k : τ → F (Fl σ κ r)} {tm : TM} {b m : SM} {s0 : τ} (hi : IR t e js (mi ρ p) p) (h0 : J s0 (frz js ρ))
    (hb : ∀ s x ρ p, J s ρ → ∃ ρ1, tm (e x) ρ = some ρ1 ∧ SR (tb s x) J J er fr (b ρ1 p) p) (g : ∀ s ρ p, J s ρ → SR (k s) I K er fr (m ρ p) p) :
    SR (CM.bind t fun xs => bindF (forT tb xs s0) k) I K er fr (sSeq (sFor mi tm b) m ρ p) p := by
  show SR _ I K er fr (oSeq ((mi ρ p).thenO _) m) p
  rw [thenO_seq]
  exact hi.thenS fun xs p1 => s_seq (for_run hb xs s0 _ p1 h0) g
def whileT {F : Type → Type} [CM F] {σ κ r : Type} (tc : σ → F Bool) (tb : σ → F (Fl σ σ r)) (n : Nat) (s : σ) : F (Fl σ κ r) :=
  Nat.rec (motive := fun _ => σ → F (Fl σ κ r)) (fun _ => CM.ret .bad) (fun _ ih s => CM.bind (tc s) fun c => bif c then CM.bind (tb s) fun o => Fl.rec (motive := fun _ => F (Fl σ κ r)) (fun s => ih s) (fun s => CM.pure (.nx s)) (fun s => ih s) (fun x => CM.pure (.ret x)) o else CM.pure (.nx s)) n s
theorem while_run {I : σ → Env → Prop} {tc : σ → F Bool} {tb : σ → F (Fl σ σ r)} {c : M Z} {b : SM} (hc : ∀ s ρ p, I s ρ → CR (tc s) (c ρ p) p) (hb : ∀ s ρ p, I s ρ → SR (tb s) I I er fr (b ρ p) p) :
    ∀ (n : Nat) (s : σ) (ρ : Env) (p : Option Pen), I s ρ → SR (whileT tc tb n s) I K er fr (whileO c b n ρ p) p
  | 0, s, ρ, p, h => by
    show SR (CM.ret .bad) I K er fr _ p
    unfold SR
    rw [CM.run_ret]
    trivial
  | n + 1, s, ρ, p, h => by
    show SR (CM.bind (tc s) _) I K er fr ((c ρ p).thenO _) p
    refine (hc s ρ p h).thenS fun x z p1 hz => ?_
    rw [hz]
    cases x with
    | false => exact s_end h
    | true =>
      have e2 := hb s ρ p1 h
      show SR (CM.bind (tb s) _) I K er fr (match b ρ p1 with | .nx ρ2 p2 => whileO c b n ρ2 p2 | .cnt ρ2 p2 => whileO c b n ρ2 p2 | .brk ρ2 p2 => .nx ρ2 p2 | .ret z p2 => .ret z p2 | .exc c fs p2 => .exc c fs p2 | .bad => .bad) p1
      unfold SR at e2
      unfold SR
      rw [CM.run_bind]
      generalize CM.run (tb s) p1 = y at e2 ⊢
      rcases y with ⟨a | ⟨k, fs⟩ | _, p2⟩
      · cases a with
        | nx s =>
          obtain ⟨ρ2, e2, h2⟩ := e2
          dsimp only
          rw [e2]
          exact while_run hc hb n s ρ2 p2 h2
        | cnt s =>
          obtain ⟨ρ2, e2, h2⟩ := e2
          dsimp only
          rw [e2]
          exact while_run hc hb n s ρ2 p2 h2
        | brk s =>
          obtain ⟨ρ2, e2, h2⟩ := e2
          dsimp only
          rw [e2]
          simp only [CM.run_ret]
          exact ⟨ρ2, rfl, h2⟩
        | ret x =>
          have e2 : b ρ p1 = _ := e2
          dsimp only
          rw [e2]
          simp only [CM.run_ret]
      · have e2 : b ρ p1 = _ := e2
        dsimp only
        rw [e2]
      · trivial
theorem s_while {J : τ → Env → Prop} {tc : τ → F Bool} {tb : τ → F (Fl τ τ r)} {k : τ → F (Fl σ κ r)} {c : M Z} {b m : SM} {s0 : τ} {n : Nat} (h0 : J s0 ρ) (hc : ∀ s ρ p, J s ρ → CR (tc s) (c ρ p) p) (hb : ∀ s ρ p, J s ρ → SR (tb s) J J er fr (b ρ p) p) (g : ∀ s ρ p, J s ρ → SR (k s) I K er fr (m ρ p) p) :
    SR (bindF (whileT tc tb n s0) k) I K er fr (sSeq (whileO c b n) m ρ p) p := by
  show SR _ I K er fr (oSeq (whileO c b n ρ p) m) p
  exact s_seq (while_run hc hb n s0 ρ p h0) g
/-! ### defs -/
def fnT {F : Type → Type} [CM F] {σ κ r : Type} (t : F (Fl σ κ r)) : F r := CM.bind t fun x => match x with | .ret x => CM.pure x | _ => CM.ret .bad
/-- None at the end -/
def fnN {F : Type → Type} [CM F] {σ κ r : Type} (w : r) (t : F (Fl σ κ r)) : F r := CM.bind t fun x => match x with | .ret x => CM.pure x | .nx _ => CM.pure w | _ => CM.ret .bad
theorem f_fn {np n : Nat} {ds : List D} {t : F (Fl σ κ r)} {m : SM} (hl : ds.length = np) (h : SR t I K er fr (m (startE n ds) p) p) : FR (fnT t) er fr (runF np n m ds p) p := by
  unfold SR at h
  unfold FR fnT runF
  rw [CM.run_bind, if_pos hl]
  generalize CM.run t p = y at h ⊢
  rcases y with ⟨a | ⟨k, fs⟩ | _, p1⟩
  · cases a with
    | nx s => simp only [CM.run_ret]
    | cnt s => simp only [CM.run_ret]
    | brk s => simp only [CM.run_ret]
    | ret x =>
      have h : m _ p = _ := h
      simp only [CM.run_ret]
      rw [h]
  · have h : m _ p = _ := h
    dsimp only
    rw [h]
  · trivial
theorem f_fnN {np n : Nat} {ds : List D} {t : F (Fl σ κ r)} {m : SM} {w : r} (hl : ds.length = np) (hw : er w = .non) (hf : fr = 0) (h : SR t I K er fr (m (startE n ds) p) p) : FR (fnN w t) er fr (runF np n m ds p) p := by
  unfold SR at h
  unfold FR fnN runF
  rw [CM.run_bind, if_pos hl]
  generalize CM.run t p = y at h ⊢
  rcases y with ⟨a | ⟨k, fs⟩ | _, p1⟩
  · cases a with
    | nx s =>
      obtain ⟨ρ1, h, _⟩ := h
      simp only [CM.run_ret]
      rw [h, hw, hf]
    | cnt s => simp only [CM.run_ret]
    | brk s => simp only [CM.run_ret]
    | ret x =>
      have h : m _ p = _ := h
      simp only [CM.run_ret]
      rw [h]
  · have h : m _ p = _ := h
    dsimp only
    rw [h]
  · trivial
end
end
end DL
set_option Elab.async false
set_option linter.all false
set_option maxRecDepth 100000
set_option maxHeartbeats 4000000
/-! # The typed layer, part 4: lists changed in place, parallel stores, draws -/
namespace DL
open PySem PySem.Spec PyProof.Rows L2
noncomputable section

@[irreducible] def putT {α : Type} (xs : List α) (v : α) : E (List α) := if decide (xs.length < LIM) = true then .ok (xs ++ [v]) else .bad
def setL {α : Type} (xs : List α) (n : Nat) (v : α) : List α := List.rec (motive := fun _ => Nat → List α) (fun _ => []) (fun x xs ih n => Nat.rec (motive := fun _ => List α) (v :: xs) (fun m _ => x :: ih m) n) xs n
theorem setL_eq {α : Type} (v : α) : ∀ (xs : List α) (n : Nat), setL xs n v = xs.set n v
  | [], n => rfl
  | x :: xs, 0 => rfl
  | x :: xs, n + 1 => congrArg (x :: ·) (setL_eq v xs n)
def setT {α : Type} (xs : List α) (k : Int) (v : α) : E (List α) := Option.rec (motive := fun _ => E (List α)) .bad (fun j => .ok (setL xs j v)) (ixN xs.length k)
section
variable {F : Type → Type} [CM F] {α β γ σ τ κ r : Type} {ρ : Env} {p : Option Pen} {I : σ → Env → Prop} {K : κ → Env → Prop} {er : r → D} {fr : Nat}
theorem mut1 {op : LOp} {chk : List D → Bool} {i : Nat} {ds : List D} {z : Z} {js : List Nat} (h : ρ[i]? = some (some ⟨.lst ds, 1⟩)) (hj : z.frL 0 = js) (h2 : (frz js ρ)[i]? = some (some ⟨.lst ds, 1⟩)) (hc : chk ds = true) :
    mutL op chk (i, []) z ρ = some ((frz js ρ).set i (some ⟨.lst (op.f z.d ds), 1⟩)) := by
  unfold mutL
  dsimp only
  rw [h]
  show (match (frz (z.frL 0) ρ)[i]? with | some (some c) => _ | _ => none) = _
  rw [hj, h2]
  show (if 0 < 1 ∧ 1 = 1 ∧ z.okL 0 = true ∧ chk ds = true then some ((frz (z.frL 0) ρ).set i (some ⟨.lst (op.f z.d ds), 1⟩)) else none) = _
  rw [if_pos ⟨by decide, rfl, rfl, hc⟩, hj]
theorem frL_lf {d : D} {b c : List Nat} {f n : Nat} (h : lf d = true) : Z.frL n ⟨d, b, c, f⟩ = [] := by
  unfold Z.frL
  rw [if_pos h]
theorem frL_no {d : D} {f n : Nat} : Z.frL n ⟨d, [], [], f⟩ = [] := by
  unfold Z.frL
  split
  · rfl
  · split <;> rfl
theorem s_E {e : E α} {k : α → F (Fl σ κ r)} {o : O} (h : ∀ a, e = .ok a → SR (k a) I K er fr o p) (hx : ∀ c fs, e ≠ .exc c fs) : SR (CM.bind (CM.ret e) k) I K er fr o p := by
  cases e with
  | ok a =>
    have h := h a rfl
    unfold SR at h ⊢
    rw [CM.run_bind, CM.run_ret]
    exact h
  | exc c fs => exact absurd rfl (hx c fs)
  | bad =>
    unfold SR
    rw [CM.run_bind, CM.run_ret]
    trivial
/-- xs.append(v): the slot i, one deep -/
theorem s_app {i : Nat} {xs : List α} {enc : α → D} {t : F α} {k : List α → F (Fl σ κ r)} {b c js : List Nat} {f : Nat} {e : M Z} {m : SM} {ρ' : List α → Env} (h : XR t enc b c f (e ρ p) p) (hx : ρ[i]? = some (some ⟨eL enc xs, 1⟩)) (hj : ∀ a, Z.frL 0 ⟨enc a, b, c, f⟩ = js) (h2 : (frz js ρ)[i]? = some (some ⟨eL enc xs, 1⟩)) (hρ : ∀ ys, (frz js ρ).set i (some ⟨eL enc ys, 1⟩) = ρ' ys) (g : ∀ ys p, SR (k ys) I K er fr (m (ρ' ys) p) p) :
    SR (CM.bind t fun a => CM.bind (CM.ret (putT xs a)) k) I K er fr (sSeq (sApp (plVar i) e) m ρ p) p := by
  have e1 : plVar i ρ p = .ok (i, []) p := by
    unfold plVar
    rw [hx]
    rfl
  have e2 : plLst (i, []) ρ = true := by
    unfold plLst
    dsimp only
    rw [hx]
    rfl
  show SR (F := F) _ I K er fr (oSeq ((plVar i ρ p).thenO fun x p1 => if plLst x ρ = true then (e ρ p1).thenO fun z p2 => (match mutL lApp (fun ds => decide (ds.length < LIM)) x z ρ with | some ρ' => .nx ρ' p2 | none => .bad) else .bad) m) p
  rw [e1]
  show SR (F := F) _ I K er fr (oSeq (if plLst (i, []) ρ = true then (e ρ p).thenO fun z p2 => (match mutL lApp (fun ds => decide (ds.length < LIM)) (i, []) z ρ with | some ρ' => .nx ρ' p2 | none => .bad) else .bad) m) p
  rw [if_pos e2, thenO_seq]
  refine h.thenS fun a p1 => s_E (fun ys hy => ?_) fun _ _ => by unfold putT; exact if_nx
  unfold putT at hy
  obtain ⟨q, rfl⟩ := ok_if hy
  rw [mut1 hx (hj a) h2 (by rw [List.length_map]; exact q)]
  have g := g (xs ++ [a]) p1
  rw [← hρ, eL, List.map_append] at g
  exact g
theorem setT_ok {xs ys : List α} {k : Int} {v : α} (h : setT xs k v = .ok ys) : ∃ j, ixN xs.length k = some j ∧ ys = xs.set j v := by
  unfold setT at h
  cases e : ixN xs.length k with
  | none => rw [e] at h; cases h
  | some j => rw [e] at h; cases h; exact ⟨j, rfl, setL_eq _ _ _⟩
theorem setT_nx {xs : List α} {k : Int} {v : α} {c : Nat} {fs : List D} : setT xs k v ≠ .exc c fs := by
  unfold setT
  cases ixN xs.length k <;> exact fun h => nomatch h
theorem idxT_nx {xs : List α} {k : Int} {c : Nat} {fs : List D} : idxT xs k ≠ .exc c fs := by
  rw [idxT_eq]
  cases atI xs k <;> exact fun h => (nomatch h)
theorem AR.thenS' {t : F α} {k : α → F (Fl σ κ r)} {zs : α → List Z} {o : R (List Z)} (h : AR t zs o p) {G : List Z → Option Pen → O} (g : ∀ a p1, SR (k a) I K er fr (G (zs a) p1) p1) : SR (CM.bind t k) I K er fr (o.thenO G) p := h.thenS g
/-- xs[k] = v: the slot i, one deep -/
theorem s_set {i : Nat} {xs : List α} {enc : α → D} {t : F α} {tk : F Int} {k : List α → F (Fl σ κ r)} {b c js b2 c2 : List Nat} {f f2 : Nat} {e ek : M Z} {m : SM} {ρ' : List α → Env} (h : XR t enc b c f (e ρ p) p) (hk : ∀ p, XR tk eI b2 c2 f2 (ek ρ p) p) (hx : ρ[i]? = some (some ⟨eL enc xs, 1⟩)) (hj : ∀ a, Z.frL 0 ⟨enc a, b, c, f⟩ = js) (h2 : (frz js ρ)[i]? = some (some ⟨eL enc xs, 1⟩)) (hρ : ∀ ys, (frz js ρ).set i (some ⟨eL enc ys, 1⟩) = ρ' ys) (g : ∀ ys p, SR (k ys) I K er fr (m (ρ' ys) p) p) :
    SR (CM.bind t fun a => CM.bind tk fun j => CM.bind (CM.ret (setT xs j a)) k) I K er fr (sSeq (sStI e (plVar i) ek) m ρ p) p := by
  have e1 : ∀ p, plVar i ρ p = .ok (i, []) p := fun p => by
    unfold plVar
    rw [hx]
    rfl
  show SR (F := F) _ I K er fr (oSeq ((e ρ p).thenO fun z p1 => (plVar i ρ p1).thenO fun x p2 => (ek ρ p2).thenO fun y p3 => _) m) p
  rw [thenO_seq]
  refine h.thenS fun a p1 => ?_
  rw [e1]
  show SR (F := F) _ I K er fr (oSeq ((ek ρ p1).thenO fun y p3 => _) m) p1
  rw [thenO_seq]
  refine (hk p1).thenS fun j p2 => s_E (fun ys hy => ?_) fun _ _ => setT_nx
  obtain ⟨n, q, rfl⟩ := setT_ok hy
  dsimp only
  rw [hx]
  show SR (F := F) _ I K er fr (oSeq (match ixN (xs.map enc).length j with | some j => _ | none => .bad) m) p2
  rw [List.length_map, q]
  dsimp only
  rw [mut1 hx (hj a) h2 (by simp)]
  have g := g (xs.set n a) p2
  rw [← hρ, eL, List.map_set] at g
  exact g
/-- xs[k] += v, ints -/
theorem s_augI {i : Nat} {xs : List Int} {w : Int → Int → Int} {t tk : F Int} {k : List Int → F (Fl σ κ r)} {b c b2 c2 : List Nat} {f f2 : Nat} {e ek : M Z} {m : SM} {ρ' : List Int → Env} (hk : XR tk eI b2 c2 f2 (ek ρ p) p) (h : ∀ p, XR t eI b c f (e ρ p) p) (hx : ρ[i]? = some (some ⟨eL eI xs, 1⟩)) (hρ : ∀ ys, ρ.set i (some ⟨eL eI ys, 1⟩) = ρ' ys) (g : ∀ ys p, SR (k ys) I K er fr (m (ρ' ys) p) p) :
    SR (CM.bind tk fun j => CM.bind (CM.ret (idxT xs j)) fun a => CM.bind t fun v => CM.bind (CM.ret (setT xs j (w a v))) k) I K er fr (sSeq (sAugI (plVar i) ek w e) m ρ p) p := by
  have e1 : ∀ p, plVar i ρ p = .ok (i, []) p := fun p => by
    unfold plVar
    rw [hx]
    rfl
  show SR (F := F) _ I K er fr (oSeq ((plVar i ρ p).thenO fun x p1 => (ek ρ p1).thenO fun y p2 => _) m) p
  rw [e1]
  show SR (F := F) _ I K er fr (oSeq ((ek ρ p).thenO fun y p2 => _) m) p
  rw [thenO_seq]
  refine hk.thenS fun j p1 => s_E (fun a ha => ?_) fun _ _ => idxT_nx
  rw [idxT_eq] at ha
  have ha := ofO_ok ha
  unfold atI at ha
  cases q : ixN xs.length j with
  | none => rw [q] at ha; cases ha
  | some n =>
    rw [q] at ha
    have ha : xs[n]? = some a := ha
    dsimp only
    rw [hx]
    show SR (F := F) _ I K er fr (oSeq (match ixN (xs.map D.int).length j with | some j => (match (xs.map D.int)[j]? with | some (.int a) => (e ρ p1).thenO fun u p3 => (match u.d with | .int b => (match mutL (lSet j) (fun es => es.length == (xs.map D.int).length) (i, []) (zS (.int (w a b))) ρ with | some ρ' => O.nx ρ' p3 | none => .bad) | _ => .bad) | _ => .bad) | none => .bad) m) p1
    rw [List.length_map, q]
    dsimp only
    rw [List.getElem?_map, ha]
    dsimp only [Option.map]
    rw [thenO_seq]
    refine (h p1).thenS fun v p2 => s_E (fun ys hy => ?_) fun _ _ => setT_nx
    obtain ⟨n', q', rfl⟩ := setT_ok hy
    rw [q] at q'
    cases q'
    dsimp only
    rw [mut1 (js := []) hx frL_no hx (by simp)]
    have g := g (xs.set n (w a v)) p2
    rw [← hρ, eL, List.map_set] at g
    exact g
/-- a, b = x, y -/
theorem s_par {is : List Nat} {t : F α} {zs : α → List Z} {k : α → F (Fl σ κ r)} {G : M (List Z)} {m : SM} {ρ' : α → Env} (h : AR t zs (G ρ p) p) (hl : ∀ a, is.length = (zs a).length ∧ allLt is ρ.length = true) (hρ : ∀ a, putAll is (zs a) (frz (fzs (zs a)) ρ) = ρ' a) (g : ∀ a p, SR (k a) I K er fr (m (ρ' a) p) p) :
    SR (CM.bind t k) I K er fr (sSeq (sPar is G) m ρ p) p := by
  show SR (F := F) _ I K er fr (oSeq ((G ρ p).thenO _) m) p
  rw [thenO_seq]
  refine h.thenS fun a p1 => ?_
  show SR (F := F) _ I K er fr (oSeq (if is.length = (zs a).length ∧ allLt is ρ.length = true then _ else _) m) p1
  rw [if_pos (hl a), hρ a]
  exact g a p1
/-- a, b = x -/
theorem s_unp {t : F α} {enc : α → D} {w : α → E β} {k : β → F (Fl σ κ r)} {b c : List Nat} {f : Nat} {e : M Z} {tm : TM} {m : SM} {ρ' : β → Env} (h : XR t enc b c f (e ρ p) p) (hρ : ∀ a x, w a = .ok x → tm (enc a) (frz (b ++ c) ρ) = some (ρ' x)) (hx : ∀ a c fs, w a ≠ .exc c fs := by intros; intro h; nomatch h) (g : ∀ a p, SR (k a) I K er fr (m (ρ' a) p) p) :
    SR (CM.bind t fun a => CM.bind (CM.ret (w a)) k) I K er fr (sSeq (sUnp tm e) m ρ p) p := by
  show SR (F := F) _ I K er fr (oSeq ((e ρ p).thenO _) m) p
  rw [thenO_seq]
  refine h.thenS fun a p1 => s_E (fun x q => ?_) (hx a)
  show SR (F := F) _ I K er fr (oSeq (match tm (enc a) (frz (b ++ c) ρ) with | some ρ2 => .nx ρ2 p1 | none => .bad) m) p1
  rw [hρ a x q]
  exact g x p1
end

/-! ### draws -/
def drawT (m : Int) : Dr Int := .draw m fun r => .ret (.ok r)
def mDrawA : SM := sPenSet 0 (fun q n => { q with count := n }) (eOp opAdd (ePenI 0 Pen.count) (eC (.int 1)))
def mDrawB : SM := sIf (eAnd (eOp opEq (ePenI 0 Pen.digits) (eC (.int 0))) (eOp opLt (ePenI 0 Pen.at_) (ePenLen 0))) (sSeq (sAsg 2 (ePenCell 0 (ePenI 0 Pen.at_))) (sSeq (sPenSet 0 (fun q n => { q with at_ := n }) (eOp opAdd (ePenI 0 Pen.at_) (eC (.int 1)))) (sIf (eOp opGe (eVar 2) (eOp opPow (eC (.int 10)) (eC (.int 18)))) (sPenSet 0 (fun q n => { q with digits := n }) (eOp opSub (eVar 2) (eOp opPow (eC (.int 10)) (eC (.int 18))))) (sPenSet 0 (fun q n => { q with fold := n }) (eOp opMod (eCB biInt (aCons (eOp opAdd (eOp opMul (ePenI 0 Pen.fold) (eC (.int 38993))) (eVar 2)) (aNil))) (eC (.int 2147483399))))))) (sPass)
def mDrawC : SM := sSeq (sIf (eOp opGt (ePenI 0 Pen.digits) (eC (.int 0))) (sSeq (sAsg 3 (eOp opMod (eCB biInt (aCons (ePenI 0 Pen.digits) (aNil))) (eVar 1))) (sSeq (sPenSet 0 (fun q n => { q with digits := n }) (eOp opFdiv (ePenI 0 Pen.digits) (eVar 1))) (sRetV 3))) (sPass)) (sSeq (sAsg 4 (eOp opAdd (eOp opAdd (ePenI 0 Pen.fold) (eOp opMul (ePenI 0 Pen.count) (eC (.int 7603)))) (eC (.int 79)))) (sRet (eOp opMod (eOp opFdiv (eCB biInt (aCons (eOp opMod (eOp opPow (eVar 4) (eC (.int 33))) (eC (.int 2305843009213693951))) (aNil))) (eC (.int 32))) (eVar 1))))
def mDraw : SM := sSeq mDrawA (sSeq mDrawB mDrawC)
end
end DL
set_option Elab.async false
set_option linter.all false
set_option maxRecDepth 100000
set_option maxHeartbeats 4000000
/-! # The typed layer, part 5: what a draw gives -/
namespace DL
open PySem PySem.Spec PyProof.Rows L2
noncomputable section
section
variable {ρ : Env} {p : Option Pen} {q : Pen}
theorem pw18 : eOp opPow (eC (.int 10)) (eC (.int 18)) ρ p = .ok (zS (.int (10 ^ 18))) p := ev_op (x := zS (.int 10)) (y := zS (.int 18)) rfl rfl rfl
def penEnd (q : Pen) (m : Int) : R (D × Nat) := .ok (.int (pd q m).1, 0) (some (pd q m).2)
theorem draw_C {cells : List Int} {m count : Int} (h0 : 0 < m) (h1 : m < 1073741824) (hf : 0 ≤ count) (hh : count < 2 ^ 40) (c2 c3 : Option Cell) (at1 dg fo : Int) (f0 : 0 ≤ fo) (f1 : fo < 2 ^ 32) :
    mDrawC [some ⟨.pen, 0⟩, some ⟨.int m, 0⟩, c2, c3, none] (some ⟨cells, at1, dg, count + 1, fo⟩)
      = .ret ⟨.int (if dg > 0 then dg.fmod m else (((fo + (count + 1) * 7603 + 79) ^ 33).fmod 2305843009213693951 |>.fdiv 32).fmod m), [], [], 0⟩ (some (if dg > 0 then ⟨cells, at1, dg.fdiv m, count + 1, fo⟩ else ⟨cells, at1, dg, count + 1, fo⟩)) := by
  have hm : (decide (m ≠ 0) && decide (m.natAbs < 1073741824)) = true := by
    rw [decide_eq_true (by omega), decide_eq_true (by omega)]
    rfl
  have hm' : decide (m ≠ 0) = true := decide_eq_true (by omega)
  unfold mDrawC
  by_cases k : dg > 0
  · rw [if_pos k, if_pos k]
    have e1 : ∀ x : Int, opMod (zS (.int x)) ⟨.int m, [], [], 0⟩ = some ⟨eI (x.fmod m), [], [], 0⟩ := fun x => o_modC hm'
    have e2 : ∀ x : Int, opFdiv (zS (.int x)) ⟨.int m, [], [], 0⟩ = some ⟨eI (x.fdiv m), [], [], 0⟩ := fun x => o_fdivC hm
    simp [sSeq, sIf, eOp, ePenI, penAt, eC, opGt, truth, k, R.bind, R.thenO, sAsg, eCB, aCons, aNil, biInt, eVar, e1, e2, asgN, Z.fr, fr0, frz, sPenSet, sRetV, sPass]
  · rw [if_neg k, if_neg k]
    have e0 : ∀ x : Int, opMul (zS (.int x)) (zS (.int 7603)) = some ⟨eI (x * 7603), [], [], 0⟩ := fun x => o_mulR rfl
    have e1 : ∀ x : Int, opMod (zS (.int x)) ⟨.int m, [], [], 0⟩ = some ⟨eI (x.fmod m), [], [], 0⟩ := fun x => o_modC hm'
    have e2 : ∀ x : Int, opMod (zS (.int x)) (zS (.int 2305843009213693951)) = some ⟨eI (x.fmod 2305843009213693951), [], [], 0⟩ := fun x => o_modC rfl
    have e3 : ∀ x : Int, opFdiv (zS (.int x)) (zS (.int 32)) = some ⟨eI (x.fdiv 32), [], [], 0⟩ := fun x => o_fdivC rfl
    have e4 : opPow (Z.mk (.int (fo + (count + 1) * 7603 + 79)) [] [] 0) (zS (.int 33)) = some ⟨eI ((fo + (count + 1) * 7603 + 79) ^ 33), [], [], 0⟩ := by
      refine o_pow ?_
      unfold powT
      rw [if_pos]
      · rfl
      · unfold powOk
        rw [decide_eq_true (by decide), decide_eq_true (by decide), decide_eq_true (by omega)]
        rfl
    simp [sSeq, sIf, eOp, ePenI, penAt, eC, opGt, truth, k, R.bind, R.thenO, sAsg, eCB, aCons, aNil, biInt, eVar, opAdd, e0, e1, e2, e3, e4, asgN, Z.fr, fr0, frz, sPenSet, sRetV, sPass, sRet]
theorem draw_B1 {cells : List Int} {m count at_ fold : Int} (ha : 0 ≤ at_) (k2 : at_ < cells.length) {cell : Int} (hcell : cells.getD at_.toNat 0 = cell) :
    mDrawB [some ⟨.pen, 0⟩, some ⟨.int m, 0⟩, none, none, none] (some ⟨cells, at_, 0, count, fold⟩) = .nx [some ⟨.pen, 0⟩, some ⟨.int m, 0⟩, some ⟨.int cell, 0⟩, none, none] (some (if cell ≥ 10 ^ 18 then ⟨cells, at_ + 1, cell - 10 ^ 18, count, fold⟩ else ⟨cells, at_ + 1, 0, count, (fold * 38993 + cell).fmod 2147483399⟩)) := by
  have el : atI cells at_ = some cell := by
    unfold atI ixN
    rw [if_pos ha, if_pos k2]
    show cells[at_.toNat]? = _
    rw [← hcell, List.getElem?_eq_getElem (by omega), List.getD_eq_getElem?_getD, List.getElem?_eq_getElem (by omega)]
    rfl
  have e0 : ∀ x : Int, opMul (zS (.int x)) (zS (.int 38993)) = some ⟨eI (x * 38993), [], [], 0⟩ := fun x => o_mulR rfl
  have e1 : ∀ x : Int, opMod (zS (.int x)) (zS (.int 2147483399)) = some ⟨eI (x.fmod 2147483399), [], [], 0⟩ := fun x => o_modC rfl
  have e2 : opPow (zS (.int 10)) (zS (.int 18)) = some (zS (.int 1000000000000000000)) := rfl
  have e3 : (10 : Int) ^ 18 = 1000000000000000000 := rfl
  rw [e3]
  unfold mDrawB
  by_cases k3 : (1000000000000000000 : Int) ≤ cell
  · rw [if_pos k3]
    simp [sSeq, sIf, eOp, ePenI, penAt, eC, opAdd, opEq, dOk, toPy, PyData.eqv, opLt, ePenLen, eAnd, opGe, truth, k2, k3, e2, e0, e1, el, R.bind, R.thenO, sAsg, eCB, aCons, aNil, biInt, eVar, ePenCell, asgN, Z.fr, fr0, frz, sPenSet, opSub]
  · rw [if_neg k3]
    simp [sSeq, sIf, eOp, ePenI, penAt, eC, opAdd, opEq, dOk, toPy, PyData.eqv, opLt, ePenLen, eAnd, opGe, truth, k2, k3, e2, e0, e1, el, R.bind, R.thenO, sAsg, eCB, aCons, aNil, biInt, eVar, ePenCell, asgN, Z.fr, fr0, frz, sPenSet, opSub]
theorem draw_B2 {cells : List Int} {m count at_ fold digits : Int} (k : ¬ (digits = 0 ∧ at_ < cells.length)) :
    mDrawB [some ⟨.pen, 0⟩, some ⟨.int m, 0⟩, none, none, none] (some ⟨cells, at_, digits, count, fold⟩) = .nx [some ⟨.pen, 0⟩, some ⟨.int m, 0⟩, none, none, none] (some ⟨cells, at_, digits, count, fold⟩) := by
  unfold mDrawB
  by_cases k1 : digits = 0
  · have k2 : ¬ at_ < cells.length := fun h => k ⟨k1, h⟩
    simp [sIf, eOp, ePenI, penAt, eC, opEq, dOk, toPy, PyData.eqv, opLt, ePenLen, eAnd, truth, k1, k2, R.bind, R.thenO, sPass]
  · have k2 : (digits == 0) = false := by simp [k1]
    simp [sIf, eOp, ePenI, penAt, eC, opEq, dOk, toPy, PyData.eqv, opLt, ePenLen, eAnd, truth, k2, R.bind, R.thenO, sPass]
theorem draw_run {q : Pen} {m : Int} (hg : q.good = true) (h0 : 0 < m) (h1 : m < 1073741824) : runF 2 5 mDraw [.pen, .int m] (some q) = .ok (.int (pd q m).1, 0) (some (pd q m).2) := by
  obtain ⟨cells, at_, digits, count, fold⟩ := q
  simp only [Pen.good, Bool.and_eq_true, decide_eq_true_eq] at hg
  obtain ⟨⟨⟨⟨⟨⟨ha, hb⟩, hc⟩, hd⟩, he⟩, hf⟩, hh⟩ := hg
  have eA : mDrawA [some ⟨.pen, 0⟩, some ⟨.int m, 0⟩, none, none, none] (some ⟨cells, at_, digits, count, fold⟩) = .nx [some ⟨.pen, 0⟩, some ⟨.int m, 0⟩, none, none, none] (some ⟨cells, at_, digits, count + 1, fold⟩) := by
    unfold mDrawA
    simp [sPenSet, eOp, ePenI, penAt, eC, opAdd, R.bind, R.thenO]
  show (match mDraw [some ⟨.pen, 0⟩, some ⟨.int m, 0⟩, none, none, none] (some ⟨cells, at_, digits, count, fold⟩) with
    | .nx _ p1 => R.ok (D.non, 0) p1
    | .ret z p1 => .ok (z.d, z.f) p1
    | .exc c fs p1 => .exc c fs p1
    | _ => .bad) = _
  have run : ∀ {ρ : Env} {q1 : Pen} {o : O}, mDrawB [some ⟨.pen, 0⟩, some ⟨.int m, 0⟩, none, none, none] (some ⟨cells, at_, digits, count + 1, fold⟩) = .nx ρ (some q1) → mDrawC ρ (some q1) = o → mDraw [some ⟨.pen, 0⟩, some ⟨.int m, 0⟩, none, none, none] (some ⟨cells, at_, digits, count, fold⟩) = o := by
    intro ρ q1 o e1 e2
    show (match mDrawA [some ⟨.pen, 0⟩, some ⟨.int m, 0⟩, none, none, none] (some ⟨cells, at_, digits, count, fold⟩) with | .nx ρ1 p1 => sSeq mDrawB mDrawC ρ1 p1 | o => o) = _
    rw [eA]
    show (match mDrawB _ _ with | .nx ρ1 p1 => mDrawC ρ1 p1 | o => o) = _
    rw [e1]
    exact e2
  by_cases k : digits = 0 ∧ at_ < cells.length
  · obtain ⟨rfl, k2⟩ := k
    have e1 := draw_B1 (m := m) (count := count + 1) (fold := fold) ha k2 rfl
    by_cases k3 : cells.getD at_.toNat 0 ≥ 10 ^ 18
    · rw [if_pos k3] at e1
      rw [run e1 (draw_C h0 h1 hf hh _ _ _ _ _ hd (by omega))]
      unfold pd penTake
      rw [if_pos (show (0 : Int) = 0 ∧ at_ < (cells.length : Int) from ⟨rfl, k2⟩)]
      dsimp only
      rw [if_pos k3]
      dsimp only
      split <;> rfl
    · rw [if_neg k3] at e1
      rw [run e1 (draw_C h0 h1 hf hh _ _ _ _ _ (Int.fmod_nonneg_of_pos _ (by decide)) (Int.lt_trans (Int.fmod_lt_of_pos _ (by decide)) (by decide)))]
      unfold pd penTake
      rw [if_pos (show (0 : Int) = 0 ∧ at_ < (cells.length : Int) from ⟨rfl, k2⟩)]
      dsimp only
      rw [if_neg k3]
      dsimp only
      split <;> rfl
  · rw [run (draw_B2 k) (draw_C h0 h1 hf hh _ _ _ _ _ hd (by omega))]
    unfold pd penTake
    rw [if_neg k]
    dsimp only
    split <;> rfl
theorem x_draw {m : Int} {p : Option Pen} : FR (drawT m) eI 0 (runF 2 5 mDraw [.pen, .int m] p) p := by
  unfold FR drawT
  cases p with
  | none => trivial
  | some q =>
    have hr : CM.run (F := Dr) (Dr.draw m fun r => Dr.ret (E.ok r)) (some q) = if (q.good && decide (0 < m) && decide (m < 1073741824)) = true then (E.ok (pd q m).1, some (pd q m).2) else (E.bad, some q) := rfl
    rw [hr]
    by_cases h : (q.good && decide (0 < m) && decide (m < 1073741824)) = true
    · rw [if_pos h]
      simp only [Bool.and_eq_true, decide_eq_true_eq] at h
      exact draw_run h.1.1 h.1.2 h.2
    · rw [if_neg h]
      trivial

/-! ### all ways of the draws -/
def Dr.wp {α : Type} (Q : α → Prop) : Nat → Dr α → Prop
  | _, .ret (.ok a) => Q a
  | _, .ret _ => False
  | 0, .draw _ _ => False
  | n + 1, .draw m k => 0 < m ∧ m < 1073741824 ∧ ∀ r, 0 ≤ r → r < m → Dr.wp Q n (k r)
theorem Dr.wp_le {α : Type} {Q : α → Prop} : ∀ {t : Dr α} {n m : Nat}, n ≤ m → t.wp Q n → t.wp Q m
  | .ret (.ok a), n, m, l, h => by cases n <;> cases m <;> exact h
  | .ret (.exc _ _), n, m, l, h => by cases n <;> exact h.elim
  | .ret .bad, n, m, l, h => by cases n <;> exact h.elim
  | .draw _ _, 0, m, l, h => h.elim
  | .draw _ _, n + 1, 0, l, h => absurd l (by omega)
  | .draw _ k, n + 1, m + 1, l, h => ⟨h.1, h.2.1, fun r a b => Dr.wp_le (by omega) (h.2.2 r a b)⟩
theorem Dr.wp_imp {α : Type} {Q R : α → Prop} (k : ∀ a, Q a → R a) : ∀ {t : Dr α} {n : Nat}, t.wp Q n → t.wp R n
  | .ret (.ok a), n, h => by cases n <;> exact k a h
  | .ret (.exc _ _), n, h => by cases n <;> exact h.elim
  | .ret .bad, n, h => by cases n <;> exact h.elim
  | .draw _ _, 0, h => h.elim
  | .draw _ _, n + 1, h => ⟨h.1, h.2.1, fun r a b => Dr.wp_imp k (h.2.2 r a b)⟩
theorem Dr.wp_bind {α β : Type} {Q : β → Prop} {f : α → Dr β} {m : Nat} : ∀ {t : Dr α} {n : Nat}, t.wp (fun a => (f a).wp Q m) n → (t.bind f).wp Q (n + m)
  | .ret (.ok a), n, h => Dr.wp_le (Nat.le_add_left m n) (by cases n <;> exact h)
  | .ret (.exc _ _), n, h => by cases n <;> exact h.elim
  | .ret .bad, n, h => by cases n <;> exact h.elim
  | .draw _ _, 0, h => h.elim
  | .draw m' k, n + 1, h => by
    rw [Nat.succ_add]
    exact ⟨h.1, h.2.1, fun r a b => Dr.wp_bind (h.2.2 r a b)⟩
theorem Dr.wp_draw {Q : Int → Prop} {m : Int} (h0 : 0 < m) (h1 : m < 1073741824) (h : ∀ r, 0 ≤ r → r < m → Q r) : (drawT m).wp Q 1 := ⟨h0, h1, fun r a b => h r a b⟩
theorem pd_range {q : Pen} {m : Int} (h : 0 < m) : 0 ≤ (pd q m).1 ∧ (pd q m).1 < m := by
  unfold pd
  dsimp only
  split
  · exact ⟨Int.fmod_nonneg_of_pos _ h, Int.fmod_lt_of_pos _ h⟩
  · exact ⟨Int.fmod_nonneg_of_pos _ h, Int.fmod_lt_of_pos _ h⟩
/-- fit for n draws -/
structure Fit (n : Nat) (q : Pen) : Prop where
  a : 0 ≤ q.at_
  b : q.at_ ≤ q.cells.length
  c : 0 ≤ q.digits
  d : 0 ≤ q.fold
  e : q.fold < 2 ^ 32
  f : 0 ≤ q.count
  g : q.count + n < 2 ^ 40
theorem Fit.good {n : Nat} {q : Pen} (h : Fit n q) : q.good = true := by
  obtain ⟨a, b, c, d, e, f, g⟩ := h
  unfold Pen.good
  rw [decide_eq_true a, decide_eq_true b, decide_eq_true c, decide_eq_true d, decide_eq_true e, decide_eq_true f, decide_eq_true (by omega)]
  rfl
theorem Fit.next {n : Nat} {q : Pen} {m : Int} (h : Fit (n + 1) q) (hm : 0 < m) : Fit n (pd q m).2 := by
  have tk : Fit n (penTake q) := by
    obtain ⟨a, b, c, d, e, f, g⟩ := h
    unfold penTake
    split
    · rename_i k
      dsimp only
      split
      · exact ⟨by show 0 ≤ q.at_ + 1; omega, by show q.at_ + 1 ≤ (q.cells.length : Int); omega, by show 0 ≤ _ - _; omega, d, e, by show 0 ≤ q.count + 1; omega, by show q.count + 1 + n < _; omega⟩
      · exact ⟨by show 0 ≤ q.at_ + 1; omega, by show q.at_ + 1 ≤ (q.cells.length : Int); omega, c, Int.fmod_nonneg_of_pos _ (by decide), Int.lt_trans (Int.fmod_lt_of_pos _ (by decide)) (by decide), by show 0 ≤ q.count + 1; omega, by show q.count + 1 + n < _; omega⟩
    · exact ⟨a, b, c, d, e, by show 0 ≤ q.count + 1; omega, by show q.count + 1 + n < _; omega⟩
  unfold pd
  dsimp only
  obtain ⟨a, b, c, d, e, f, g⟩ := tk
  split
  · exact ⟨a, b, Int.fdiv_nonneg c (by omega), d, e, f, g⟩
  · exact ⟨a, b, c, d, e, f, g⟩
theorem wp_run {α : Type} {Q : α → Prop} : ∀ {t : Dr α} {n : Nat} {q : Pen}, t.wp Q n → Fit n q → ∃ a p, runD t (some q) = (.ok a, p) ∧ Q a
  | .ret (.ok a), n, q, h, _ => ⟨a, some q, rfl, by cases n <;> exact h⟩
  | .ret (.exc _ _), n, q, h, _ => by cases n <;> exact h.elim
  | .ret .bad, n, q, h, _ => by cases n <;> exact h.elim
  | .draw _ _, 0, q, h, _ => h.elim
  | .draw m k, n + 1, q, h, g => by
    obtain ⟨a, p, e, r⟩ := wp_run (h.2.2 _ (pd_range h.1).1 (pd_range h.1).2) (g.next h.1)
    refine ⟨a, p, ?_, r⟩
    show (if (q.good && decide (0 < m) && decide (m < 1073741824)) = true then runD (k (pd q m).1) (some (pd q m).2) else (.bad, some q)) = _
    rw [if_pos (by rw [g.good, decide_eq_true h.1, decide_eq_true h.2.1]; rfl)]
    exact e
theorem penFold_range : ∀ (ns : List Int) (f : Int), 0 ≤ f → f < 999999667 → 0 ≤ penFold f ns ∧ penFold f ns < 999999667
  | [], f, a, b => ⟨a, b⟩
  | n :: ns, f, a, b => penFold_range ns _ (Int.fmod_nonneg_of_pos _ (by decide)) (Int.fmod_lt_of_pos _ (by decide))
theorem fit_new (ns : List Int) {n : Nat} (h : n < 2 ^ 40) : Fit n (penNew ns) := by
  obtain ⟨a, b⟩ := penFold_range ns 0 (by decide) (by decide)
  exact ⟨by show (0 : Int) ≤ 0; decide, by show (0 : Int) ≤ _; omega, by show (0 : Int) ≤ 0; decide, a, Int.lt_trans b (by decide), by show (0 : Int) ≤ 0; decide, by show (0 : Int) + n < _; omega⟩
/-- the law, of its typed text -/
theorem law_ok {σ κ : Type} {t : Dr (Fl σ κ Bool)} {I : σ → Env → Prop} {K : κ → Env → Prop} {m : SM} {n N : Nat} (h : ∀ p, SR t I K eB 0 (m (startL n) p) p) (hN : N < 2 ^ 40) (w : (fnT t).wp (· = true) N) (ns : List Int) : lawOk (m (startL n) (some (penNew ns))) := by
  obtain ⟨a, p, e, rfl⟩ := wp_run w (fit_new ns hN)
  have h := h (some (penNew ns))
  unfold SR at h
  have e : CM.run (F := Dr) (fnT t) (some (penNew ns)) = (.ok true, p) := e
  unfold fnT at e
  rw [CM.run_bind] at e
  generalize CM.run t (some (penNew ns)) = y at h e
  rcases y with ⟨a | ⟨k, fs⟩ | _, p1⟩
  · cases a with
    | nx s => simp only [CM.run_ret] at e; cases e
    | brk s => simp only [CM.run_ret] at e; cases e
    | cnt s => simp only [CM.run_ret] at e; cases e
    | ret x =>
      simp only [CM.run_ret] at e
      cases e
      have h : m _ _ = _ := h
      rw [h]
      exact rfl
  · cases e
  · cases e
end
end
end DL
set_option Elab.async false
set_option linter.all false
set_option maxRecDepth 100000
set_option maxHeartbeats 4000000
/-! # The typed layer, part 6: repr, stores -/
namespace DL
open PySem PySem.Spec PyProof.Rows L2
noncomputable section

/-! ### how long a repr may be -/
mutual
def wt : D → Nat
  | .int i => if i.natAbs < 100000000000000000000 then 21 else 1921
  | .tup xs => wts xs + 6
  | .lst xs => wts xs + 6
  | .str x => (reprText x).length
  | _ => 5
def wts : List D → Nat
  | [] => 0
  | x :: xs => (wt x + 2) + wts xs
end
theorem textFrom_le : ∀ (ts : List Str) (k : Nat) (acc : Str), (textFrom k acc ts).length ≤ acc.length + piled ts
  | [], k, acc => by show acc.length ≤ _; omega
  | t :: r, k, acc => by
    have h := textFrom_le r (k + 1) (acc ++ (if k > 0 then ", " else "" : String) ++ t)
    have e : (acc ++ (if k > 0 then ", " else "" : String) ++ t).length ≤ acc.length + 2 + t.length := by
      rw [strLen_append, strLen_append]
      have : (((if k > 0 then ", " else "" : String) : Str)).length ≤ 2 := by split <;> decide
      omega
    rw [piled_cons]
    show (textFrom (k + 1) (acc ++ (if k > 0 then ", " else "" : String) ++ t) r).length ≤ _
    omega
theorem listText_le (ts : List Str) : (listText ts).length ≤ piled ts + 6 := by
  unfold listText
  rw [strLen_append]
  have h := textFrom_le ts 0 "["
  have e1 : (("[" : String) : Str).length = 1 := rfl
  have e2 : (("]" : String) : Str).length = 1 := rfl
  omega
theorem tupleText_le (ts : List Str) : (tupleText ts).length ≤ piled ts + 6 := by
  unfold tupleText
  rw [strLen_append, strLen_append]
  have e1 : ((("(" : String) : Str)).length = 1 := rfl
  have e3 : (((if ts.length == 1 then ",)" else ")" : String) : Str)).length ≤ 2 := by split <;> decide
  rw [e1]
  by_cases h : ts = []
  · subst h
    have : (Str.join (", " : String) ([] : List Str)).length = 0 := rfl
    omega
  · have := join_length_add ts h
    omega
theorem int_wt (i : Int) (h : (PyData.int i).showable = true) : (PyData.int i).shown.length ≤ wt (.int i) := by
  show (Str.ofString (toString i)).length ≤ if i.natAbs < 100000000000000000000 then 21 else 1921
  rw [PySem.ofString_length]
  split
  · rename_i h
    exact int_text_length_le10 (k := 20) (by decide) h
  · exact int_text_length_le (k := 1920) (by decide) (of_decide_eq_true h)
mutual
theorem shown_wt : ∀ (d : D), (toPy d).showable = true → (toPy d).shown.length ≤ wt d
  | .non, _ => by show ((("None" : String) : Str)).length ≤ 5; decide
  | .bl true, _ => by show ((("True" : String) : Str)).length ≤ 5; decide
  | .bl false, _ => by show ((("False" : String) : Str)).length ≤ 5; decide
  | .int i, h => int_wt i h
  | .str x, _ => Nat.le_refl _
  | .tup xs, h => by
    show (tupleText (PyData.shownAll (toPys xs))).length ≤ wts xs + 6
    exact Nat.le_trans (tupleText_le _) (Nat.add_le_add_right (showns_wt xs h) 6)
  | .lst xs, h => by
    show (listText (PyData.shownAll (toPys xs))).length ≤ wts xs + 6
    exact Nat.le_trans (listText_le _) (Nat.add_le_add_right (showns_wt xs h) 6)
  | .dic _ _, _ => by show ((("None" : String) : Str)).length ≤ 5; decide
  | .obj _ _, _ => by show ((("None" : String) : Str)).length ≤ 5; decide
  | .fn _, _ => by show ((("None" : String) : Str)).length ≤ 5; decide
  | .ty _, _ => by show ((("None" : String) : Str)).length ≤ 5; decide
  | .clo _, _ => by show ((("None" : String) : Str)).length ≤ 5; decide
  | .pen, _ => by show ((("None" : String) : Str)).length ≤ 5; decide
theorem showns_wt : ∀ (ds : List D), PyData.showableAll (toPys ds) = true → piled (PyData.shownAll (toPys ds)) ≤ wts ds
  | [], _ => Nat.le_refl _
  | d :: ds, h => by
    have h : ((toPy d).showable && PyData.showableAll (toPys ds)) = true := h
    rw [Bool.and_eq_true] at h
    show piled ((toPy d).shown :: PyData.shownAll (toPys ds)) ≤ (wt d + 2) + wts ds
    rw [piled_cons]
    have h1 := shown_wt d h.1
    have h2 := showns_wt ds h.2
    omega
end
/-! no code point is too great -/
mutual
def nsD : D → Bool
  | .str x => PyData.strOk (reprText x)
  | .tup xs => nsDs xs
  | .lst xs => nsDs xs
  | _ => true
def nsDs : List D → Bool
  | [] => true
  | d :: ds => nsD d && nsDs ds
end
theorem strOk_of (s : String) : PyData.strOk (Str.ofString s) = true := by
  unfold PyData.strOk
  rw [Str.ofString_eq_toList]
  simp only [List.all_toArray]
  rw [List.all_eq_true]
  intro c hc
  obtain ⟨x, _, rfl⟩ := List.mem_map.mp hc
  have h := x.valid
  have : x.val.toNat < 0x110000 := by
    rcases h with h | h
    · exact Nat.lt_trans h (by decide)
    · exact h.2
  exact decide_eq_true this
theorem strOk_app {x y : Str} (h : PyData.strOk x = true) (g : PyData.strOk y = true) : PyData.strOk (x ++ y) = true := by
  unfold PyData.strOk at *
  show Array.all (x.cps ++ y.cps) _ = true
  rw [Array.all_append, h, g]
  rfl
theorem strOk_textFrom : ∀ (ts : List Str) (k : Nat) (acc : Str), PyData.strOk acc = true → (∀ t ∈ ts, PyData.strOk t = true) → PyData.strOk (textFrom k acc ts) = true
  | [], k, acc, h, _ => h
  | t :: r, k, acc, h, g => strOk_textFrom r (k + 1) _ (strOk_app (strOk_app h (strOk_of _)) (g t List.mem_cons_self)) fun t ht => g t (List.mem_cons_of_mem _ ht)
theorem strOk_join : ∀ (ts : List Str), (∀ t ∈ ts, PyData.strOk t = true) → PyData.strOk (Str.join ", " ts) = true
  | [], _ => by decide +kernel
  | [t], g => g t List.mem_cons_self
  | t :: u :: r, g => strOk_app (strOk_app (g t List.mem_cons_self) (strOk_of _)) (strOk_join (u :: r) fun t ht => g t (List.mem_cons_of_mem _ ht))
mutual
theorem strOk_shown : ∀ (d : D), nsD d = true → PyData.strOk (toPy d).shown = true
  | .non, _ => strOk_of "None"
  | .bl true, _ => strOk_of "True"
  | .bl false, _ => strOk_of "False"
  | .int i, _ => strOk_of (toString i)
  | .str x, h => h
  | .tup xs, h => strOk_app (strOk_app (strOk_of "(") (strOk_join _ (strOk_showns xs h))) (strOk_of _)
  | .lst xs, h => strOk_app (strOk_textFrom _ 0 "[" (strOk_of "[") (strOk_showns xs h)) (strOk_of "]")
  | .dic _ _, _ => strOk_of "None"
  | .obj _ _, _ => strOk_of "None"
  | .fn _, _ => strOk_of "None"
  | .ty _, _ => strOk_of "None"
  | .clo _, _ => strOk_of "None"
  | .pen, _ => strOk_of "None"
theorem strOk_showns : ∀ (ds : List D), nsDs ds = true → ∀ t ∈ PyData.shownAll (toPys ds), PyData.strOk t = true
  | [], _, t, ht => by cases ht
  | d :: ds, h, t, ht => by
    have h : (nsD d && nsDs ds) = true := h
    rw [Bool.and_eq_true] at h
    have ht : t ∈ (toPy d).shown :: PyData.shownAll (toPys ds) := ht
    rcases List.mem_cons.mp ht with e | e
    · rw [e]
      exact strOk_shown d h.1
    · exact strOk_showns ds h.2 t e
end
def repOk (d : D) : Bool := dOk d 60 && (toPy d).showable && nsD d && decide (wt d ≤ LIM)
theorem repr_ok {d : D} {b c : List Nat} {f : Nat} (h : repOk d = true) : biRepr [⟨d, b, c, f⟩] = some (zS (.str (toPy d).shown)) ∧ PyData.strOk (toPy d).shown = true := by
  unfold repOk at h
  simp only [Bool.and_eq_true, decide_eq_true_eq] at h
  refine ⟨?_, strOk_shown d h.1.2⟩
  show (if (dOk d 60 && (toPy d).showable && decide ((toPy d).shown.length ≤ LIM)) = true then some (zS (.str (toPy d).shown)) else none) = _
  rw [if_pos]
  rw [h.1.1.1, h.1.1.2, decide_eq_true (Nat.le_trans (shown_wt d h.1.1.2) h.2)]
  rfl
/-- repr(a) == repr(b), of alike values: just where they are the same -/
@[irreducible] def rprT (d : D) : E Unit := if repOk d = true then .ok () else .bad
@[irreducible] def sameT {α : Type} [DecidableEq α] (a b : α) (x : Bool) : E Bool := if decide (a = b) = true then .ok x else .bad
section
variable {F : Type → Type} [CM F] {α β σ κ r : Type} {ρ : Env} {p : Option Pen} {f g : M Z} {e1 : α → D} {b1 c1 b2 c2 : List Nat} {f1 f2 : Nat}
theorem x_E {e : E α} {k : α → F β} {enc : β → D} {b c : List Nat} {n : Nat} {o : R Z} (h : ∀ a, e = .ok a → XR (k a) enc b c n o p) (hx : ∀ c fs, e ≠ .exc c fs) : XR (CM.bind (CM.ret e) k) enc b c n o p := by
  cases e with
  | ok a =>
    have h := h a rfl
    unfold XR at h ⊢
    rw [CM.run_bind, CM.run_ret]
    exact h
  | exc c fs => exact absurd rfl (hx c fs)
  | bad =>
    unfold XR
    rw [CM.run_bind, CM.run_ret]
    trivial
theorem x_Er {e : E α} {enc : α → D} {b c : List Nat} {n : Nat} {o : R Z} (h : ∀ a, e = .ok a → o = .ok ⟨enc a, b, c, n⟩ p) (hx : ∀ c fs, e ≠ .exc c fs) : XR (F := F) (CM.ret e) enc b c n o p := by
  unfold XR
  rw [CM.run_ret]
  cases e with
  | ok a => exact h a rfl
  | exc c fs => exact absurd rfl (hx c fs)
  | bad => trivial
theorem cb_one {bo : List Z → Option Z} : eCB bo (aCons f aNil) ρ p = (f ρ p).bind fun z p1 => match bo [z] with | some z => .ok z p1 | none => .bad := by
  show ((f ρ p).bind fun z p1 => R.ok [z] p1).bind _ = _
  cases f ρ p <;> rfl
theorem R.bind_assoc {α β γ : Type} {x : R α} {k : α → Option Pen → R β} {l : β → Option Pen → R γ} : (x.bind k).bind l = x.bind fun a p => (k a p).bind l := by
  cases x <;> rfl
theorem x_rpr {op : Z → Z → Option Z} {x : Bool} (ho : ∀ s : Str, PyData.strOk s = true → op (zS (.str s)) (zS (.str s)) = some (zS (.bl x))) [DecidableEq α] {t1 t2 : F α} (h1 : XR t1 e1 b1 c1 f1 (f ρ p) p) (h2 : ∀ p, XR t2 e1 b2 c2 f2 (g ρ p) p) :
    XR (CM.bind t1 fun a => CM.bind (CM.ret (rprT (e1 a))) fun _ => CM.bind t2 fun b => CM.ret (sameT a b x)) eB [] [] 0 (eOp op (eCB biRepr (aCons f aNil)) (eCB biRepr (aCons g aNil)) ρ p) p := by
  show XR _ eB [] [] 0 ((eCB biRepr (aCons f aNil) ρ p).bind _) p
  rw [cb_one, R.bind_assoc]
  refine h1.bind fun a p1 => x_E (fun u q => ?_) fun _ _ => by unfold rprT; exact if_nx
  unfold rprT at q
  obtain ⟨q, _⟩ := ok_if q
  obtain ⟨q1, q2⟩ := repr_ok (b := b1) (c := c1) (f := f1) q
  rw [q1]
  show XR _ eB [] [] 0 ((eCB biRepr (aCons g aNil) ρ p1).bind _) p1
  rw [cb_one, R.bind_assoc]
  refine (h2 p1).bind fun b p2 => x_Er (fun y z => ?_) fun _ _ => by unfold sameT; exact if_nx
  unfold sameT at z
  obtain ⟨z', rfl⟩ := ok_if z
  have z' : a = b := of_decide_eq_true z'
  subst z'
  rw [(repr_ok (b := b2) (c := c2) (f := f2) q).1]
  show (match op (zS (.str _)) (zS (.str _)) with | some z => R.ok z p2 | none => R.bad) = _
  rw [ho _ q2]
theorem str_eq (s : Str) (h : PyData.strOk s = true) : opEq (zS (.str s)) (zS (.str s)) = some (zS (.bl true)) := by
  show (if (PyData.strOk s && PyData.strOk s) = true then some (zS (.bl (s == s))) else none) = _
  rw [h, beq_self_eq_true]
  rfl
theorem str_ne (s : Str) (h : PyData.strOk s = true) : opNe (zS (.str s)) (zS (.str s)) = some (zS (.bl false)) := by
  show (if (PyData.strOk s && PyData.strOk s) = true then some (zS (.bl (!(s == s)))) else none) = _
  rw [h, beq_self_eq_true]
  rfl

/-! ### stores -/
theorem asg_lf {i : Nat} {d : D} {b c : List Nat} (h : lf d = true) : asgN i ⟨d, b, c, 0⟩ ρ = ρ.set i (some ⟨d, 0⟩) := by
  unfold asgN
  rw [show Z.fr ⟨d, b, c, 0⟩ = [] by
    show (if 0 = 0 then fr0 (b ++ c) (lf d) else _) = _
    rw [if_pos rfl, fr0_eq, h, if_pos rfl]]
  rfl
theorem asg_l1 {i : Nat} {xs : List D} {b c : List Nat} (h : lfs xs = true) : asgN i ⟨.lst xs, b, c, 1⟩ ρ = ρ.set i (some ⟨.lst xs, 1⟩) := by
  unfold asgN
  rw [show Z.fr ⟨.lst xs, b, c, 1⟩ = [] by
    show (if (1 : Nat) = 0 then _ else if (1 : Nat) = 1 then fr0 c (lfs xs) else _) = _
    rw [if_neg (by decide), if_pos rfl, fr0_eq, h, if_pos rfl]]
  rfl
theorem nn_T {e : α → D} : ∀ a, eT e a ≠ .non ∧ eT e a ≠ .pen := fun _ => ⟨fun h => (nomatch h), fun h => (nomatch h)⟩
theorem nn_L {e : α → D} : ∀ a, eL e a ≠ .non ∧ eL e a ≠ .pen := fun _ => ⟨fun h => (nomatch h), fun h => (nomatch h)⟩
theorem nn_I : ∀ a, eI a ≠ .non ∧ eI a ≠ .pen := fun _ => ⟨fun h => (nomatch h), fun h => (nomatch h)⟩
theorem nn_P2 {e : α → D} {f : β → D} : ∀ a, eP2 e f a ≠ .non ∧ eP2 e f a ≠ .pen := fun _ => ⟨fun h => (nomatch h), fun h => (nomatch h)⟩
theorem qO {e : α → D} {n : Nat} (q : EqE e n) (h : ∀ a, toPy (e a) ≠ .none) : EqE (eO e) n := by
  have no : ∀ a, PyData.eqv .none (toPy (e a)) = true → False := fun a z => by
    have h := h a
    cases q : toPy (e a) <;> rw [q] at z h <;> first | exact h rfl | cases z
  have on : ∀ a, PyData.eqv (toPy (e a)) .none = true → False := fun a z => by
    have h := h a
    cases q : toPy (e a) <;> rw [q] at z h <;> first | exact h rfl | cases z
  refine ⟨fun o => ?_, fun a b => ?_⟩
  · cases o with
    | none => cases n <;> rfl
    | some a => exact q.ok a
  · cases a with
    | none => cases b with
      | none => exact ⟨fun _ => rfl, fun _ => rfl⟩
      | some b => exact ⟨fun z => (no b z).elim, fun z => (nomatch z)⟩
    | some a => cases b with
      | none => exact ⟨fun z => (on a z).elim, fun z => (nomatch z)⟩
      | some b => exact ⟨fun z => congrArg some ((q.eqv a b).mp z), fun z => (q.eqv a b).mpr (Option.some.inj z)⟩
end
end
end DL
set_option Elab.async false
set_option linter.all false
set_option maxRecDepth 100000
set_option maxHeartbeats 4000000
/-! # The typed layer, part 7: the forms that the printer uses -/
namespace DL
open PySem PySem.Spec PyProof.Rows L2
noncomputable section
def okO (z : Option Z) (p : Option Pen) : R Z := match z with | some z => .ok z p | none => .bad
section
variable {F : Type → Type} [CM F] {α β γ σ τ κ r : Type} {ρ : Env} {p p1 : Option Pen} {m f g : M Z} {G : M (List Z)} {enc e1 : α → D} {e2 : β → D} {b c b1 c1 b2 c2 b3 c3 : List Nat} {n f1 f2 f3 : Nat} {t : F α}
theorem ev_nil : aNil ρ p = .ok [] p := rfl
theorem p_num {k : Int} : eC (.int k) ρ p = .ok ⟨eI k, [], [], 0⟩ p := rfl
theorem p_bl {k : Bool} : eC (.bl k) ρ p = .ok ⟨eB k, [], [], 0⟩ p := rfl
theorem p_str {k : Str} : eC (.str k) ρ p = .ok ⟨eS k, [], [], 0⟩ p := rfl
theorem p_non : eC .non ρ p = .ok ⟨eN (), [], [], 0⟩ p := rfl
theorem p_d {d : D} : eC d ρ p = .ok ⟨eD d, [], [], 0⟩ p := rfl
/-! in a chain -/
theorem b_p {o : R Z} {z : Z} {K : Z → Option Pen → R Z} (h : o = .ok z p) (k : XR t enc b c n (K z p) p) : XR t enc b c n (o.bind K) p := by
  rw [h]
  exact k
theorem b_x {o : R Z} {k : α → F β} {K : Z → Option Pen → R Z} (h : XR t e1 b1 c1 f1 o p) (g : ∀ a p1, XR (k a) e2 b c n (K ⟨e1 a, b1, c1, f1⟩ p1) p1) : XR (CM.bind t k) e2 b c n (o.bind K) p := h.bind g
theorem l_nil {K : List Z → Option Pen → R Z} (k : XR t enc b c n (K [] p) p) : XR t enc b c n ((aNil ρ p).bind K) p := k
theorem l_p {z : Z} {K : List Z → Option Pen → R Z} (h : f ρ p = .ok z p) (k : XR t enc b c n ((G ρ p).bind fun zs p1 => K (z :: zs) p1) p) : XR t enc b c n ((aCons f G ρ p).bind K) p := by
  show XR t enc b c n (((f ρ p).bind fun z p1 => (G ρ p1).bind fun zs p2 => R.ok (z :: zs) p2).bind K) p
  rw [h, R.bind_assoc]
  show XR t enc b c n ((((G ρ p).bind fun zs p2 => R.ok (z :: zs) p2)).bind K) p
  rw [R.bind_assoc]
  exact k
theorem l_x {k : α → F β} {K : List Z → Option Pen → R Z} (h : XR t e1 b1 c1 f1 (f ρ p) p) (g : ∀ a p1, XR (k a) e2 b c n ((G ρ p1).bind fun zs p2 => K (⟨e1 a, b1, c1, f1⟩ :: zs) p2) p1) : XR (CM.bind t k) e2 b c n ((aCons f G ρ p).bind K) p := by
  show XR _ e2 b c n (((f ρ p).bind fun z p1 => (G ρ p1).bind fun zs p2 => R.ok (z :: zs) p2).bind K) p
  rw [R.bind_assoc]
  refine h.bind fun a p1 => ?_
  rw [R.bind_assoc]
  exact g a p1
/-! ends of a chain -/
theorem n_op {z : Option Z} {a : α} (h : z = some ⟨enc a, b, c, n⟩) : XR (F := F) (CM.pure a) enc b c n (okO z p) p := by
  subst h
  exact x_pure rfl
theorem n_opE {z : Option Z} {w : E α} (h : ∀ a, w = .ok a → z = some ⟨enc a, b, c, n⟩) (hx : ∀ k fs, w ≠ .exc k fs) : XR (F := F) (CM.ret w) enc b c n (okO z p) p :=
  x_Er (fun a q => by
    have h := h a q
    subst h
    rfl) hx
theorem n_lim {z : Z} {k : Nat} {a : α} (hk : k ≤ LIM) (h : z = ⟨enc a, b, c, n⟩) : XR (F := F) (CM.pure a) enc b c n (if k ≤ LIM then R.ok z p else .bad) p := by
  rw [if_pos hk, h]
  exact x_pure rfl
theorem n_call {o : R (D × Nat)} {lo : List Nat} (h : FR t enc n o p) : XR t enc lo lo n (o.bind fun x p2 => R.ok ⟨x.1, lo, lo, x.2⟩ p2) p := by
  unfold FR at h
  unfold XR
  generalize CM.run t p = x at h ⊢
  rcases x with ⟨a | ⟨k, fs⟩ | _, p2⟩
  · have h : o = _ := h
    rw [h]
    rfl
  · have h : o = _ := h
    rw [h]
    rfl
  · trivial
theorem n_ok {a : α} {z : Z} (h : z = ⟨enc a, b, c, n⟩) : XR (F := F) (CM.pure a) enc b c n (R.ok z p) p := x_pure (by rw [h])
theorem x_map {w : α → β} (h : XR t e1 b c n (f ρ p) p) (he : ∀ a, e1 a = e2 (w a)) : XR (CM.bind t fun a => CM.pure (w a)) e2 b c n (f ρ p) p := by
  unfold XR at h ⊢
  rw [CM.run_bind]
  generalize CM.run t p = x at h ⊢
  rcases x with ⟨a | ⟨k, fs⟩ | _, p2⟩
  · have h : f ρ p = _ := h
    simp only [CM.run_ret]
    rw [h, he]
  · have h : f ρ p = _ := h
    dsimp only
    rw [h]
  · trivial
/-! pure forms -/
theorem ev_and {x y : Bool} (h1 : f ρ p = .ok ⟨eB x, [], [], 0⟩ p) (h2 : g ρ p = .ok ⟨eB y, [], [], 0⟩ p) : eAnd f g ρ p = .ok ⟨eB (x && y), [], [], 0⟩ p := by
  show (f ρ p).bind _ = _
  rw [h1]
  cases x
  · rfl
  · exact h2
theorem ev_or {x y : Bool} (h1 : f ρ p = .ok ⟨eB x, [], [], 0⟩ p) (h2 : g ρ p = .ok ⟨eB y, [], [], 0⟩ p) : eOr f g ρ p = .ok ⟨eB (x || y), [], [], 0⟩ p := by
  show (f ρ p).bind _ = _
  rw [h1]
  cases x
  · exact h2
  · rfl
theorem ev_if {c : M Z} {x : Bool} {u v : α} {z : Z} (hc : c ρ p = .ok z p) (ht : truth z.d = some x) (h1 : f ρ p = .ok ⟨enc u, b1, c1, n⟩ p) (h2 : g ρ p = .ok ⟨enc v, b1, c1, n⟩ p) : eIf c f g ρ p = .ok ⟨enc (bif x then u else v), b1, c1, n⟩ p := by
  show (c ρ p).bind _ = _
  rw [hc]
  show (match truth z.d with | some true => f ρ p | some false => g ρ p | none => .bad) = _
  rw [ht]
  cases x
  · exact h2
  · exact h1
theorem ev_chain {op op' : Z → Z → Option Z} {k : M Z} {x y z : Z} {u v : Bool} (h1 : f ρ p = .ok x p) (h2 : g ρ p = .ok y p) (h3 : k ρ p = .ok z p) (ho : op x y = some (zS (.bl u))) (ho' : op' y z = some (zS (.bl v))) : eChain op op' f g k ρ p = .ok ⟨eB (u && v), [], [], 0⟩ p := by
  show (f ρ p).bind _ = _
  rw [h1]
  show (g ρ p).bind _ = _
  rw [h2]
  show (match op x y with | some z => (match z.d with | .bl true => (k ρ p).bind fun w p3 => (match op' y w with | some u => .ok u p3 | none => .bad) | .bl false => .ok (zS (.bl false)) p | _ => .bad) | none => .bad) = _
  rw [ho]
  cases u
  · rfl
  · show (k ρ p).bind _ = _
    rw [h3]
    show (match op' y z with | some u => R.ok u p | none => R.bad) = _
    rw [ho']
    rfl
/-! and, or, if where the first is plain -/
theorem x_andP {x : Bool} {t2 : F Bool} (h1 : f ρ p = .ok ⟨eB x, [], [], 0⟩ p) (h2 : XR t2 eB [] [] 0 (g ρ p) p) : XR (bif x then t2 else CM.pure false) eB [] [] 0 (eAnd f g ρ p) p := by
  show XR _ eB [] [] 0 ((f ρ p).bind _) p
  rw [h1]
  cases x
  · exact x_pure rfl
  · exact h2
theorem x_orP {x : Bool} {t2 : F Bool} (h1 : f ρ p = .ok ⟨eB x, [], [], 0⟩ p) (h2 : XR t2 eB [] [] 0 (g ρ p) p) : XR (bif x then CM.pure true else t2) eB [] [] 0 (eOr f g ρ p) p := by
  show XR _ eB [] [] 0 ((f ρ p).bind _) p
  rw [h1]
  cases x
  · exact h2
  · exact x_pure rfl
/-- the first is known to be false, true -/
theorem ev_andF (h1 : f ρ p = .ok ⟨eB false, [], [], 0⟩ p) : eAnd f g ρ p = .ok ⟨eB false, [], [], 0⟩ p := by
  show (f ρ p).bind _ = _
  rw [h1]
  rfl
theorem ev_orT (h1 : f ρ p = .ok ⟨eB true, [], [], 0⟩ p) : eOr f g ρ p = .ok ⟨eB true, [], [], 0⟩ p := by
  show (f ρ p).bind _ = _
  rw [h1]
  rfl
theorem x_ifP {cm : M Z} {x : Bool} {z : Z} {t1 t2 : F α} (hc : cm ρ p = .ok z p) (ht : truth z.d = some x) (h1 : XR t1 enc b1 c1 n (f ρ p) p) (h2 : XR t2 enc b1 c1 n (g ρ p) p) : XR (bif x then t1 else t2) enc b1 c1 n (eIf cm f g ρ p) p := by
  show XR _ enc b1 c1 n ((cm ρ p).bind _) p
  rw [hc]
  show XR _ enc b1 c1 n (match truth z.d with | some true => f ρ p | some false => g ρ p | none => .bad) p
  rw [ht]
  cases x
  · exact h2
  · exact h1
theorem ev_ifT {cm : M Z} {z y : Z} (hc : cm ρ p = .ok z p) (ht : truth z.d = some true) (h1 : f ρ p = .ok y p) : eIf cm f g ρ p = .ok y p := by
  show (cm ρ p).bind _ = _
  rw [hc]
  show (match truth z.d with | some true => f ρ p | some false => g ρ p | none => .bad) = _
  rw [ht]
  exact h1
theorem ev_ifF {cm : M Z} {z y : Z} (hc : cm ρ p = .ok z p) (ht : truth z.d = some false) (h1 : g ρ p = .ok y p) : eIf cm f g ρ p = .ok y p := by
  show (cm ρ p).bind _ = _
  rw [hc]
  show (match truth z.d with | some true => f ρ p | some false => g ρ p | none => .bad) = _
  rw [ht]
  exact h1
theorem c_x {t : F Bool} {b c : List Nat} {n : Nat} (h : XR t eB b c n (f ρ p) p) : CR t (f ρ p) p := c_b h
theorem x_c {t : F Bool} (h : XR t eB [] [] 0 (f ρ p) p) : CR t (f ρ p) p := c_b h
/-! slices, plain -/
theorem ev_no : eNoPart ρ p = .ok none p := rfl
theorem ev_part {i : Int} (h : f ρ p = .ok ⟨eI i, b, c, n⟩ p) : ePart f ρ p = .ok (some i) p := by
  show (f ρ p).bind _ = _
  rw [h]
  rfl
theorem ev_cutL {l h : M (Option Int)} {x : List α} {lo hi : Option Int} (h1 : f ρ p = .ok ⟨eL enc x, b, c, n⟩ p) (hl : l ρ p = .ok lo p) (hh : h ρ p = .ok hi p) : eSlice f l h ρ p = .ok ⟨eL enc (cutT x lo hi), [], c, 1⟩ p := by
  show (f ρ p).bind _ = _
  rw [h1]
  show (l ρ p).bind _ = _
  rw [hl]
  show (h ρ p).bind _ = _
  rw [hh]
  show R.ok (Z.mk (.lst (cutD (x.map enc) lo hi)) [] c 1) p = _
  rw [cut_map]
theorem ev_cutT {l h : M (Option Int)} {x : List α} {lo hi : Option Int} (h1 : f ρ p = .ok ⟨eT enc x, b, c, n⟩ p) (hl : l ρ p = .ok lo p) (hh : h ρ p = .ok hi p) : eSlice f l h ρ p = .ok ⟨eT enc (cutT x lo hi), b, c, 0⟩ p := by
  show (f ρ p).bind _ = _
  rw [h1]
  show (l ρ p).bind _ = _
  rw [hl]
  show (h ρ p).bind _ = _
  rw [hh]
  show R.ok (Z.mk (.tup (cutD (x.map enc) lo hi)) b c 0) p = _
  rw [cut_map]
/-! what is gone through, plain -/
theorem ir_p {xs : List α} {js : List Nat} {o : R (List D × List Nat)} (h : o = .ok (xs.map enc, js) p) : IR (F := F) (CM.pure xs) enc js o p := by
  unfold IR
  rw [CM.run_ret]
  exact h
theorem ir_E {w : E (List α)} {js : List Nat} {op : List Z → Option (List D × List Nat)} {zs : List Z} (hg : G ρ p = .ok zs p) (h : ∀ xs, w = .ok xs → op zs = some (xs.map enc, js)) (hx : ∀ k fs, w ≠ .exc k fs) : IR (F := F) (CM.ret w) enc js (iR op G ρ p) p := by
  unfold IR
  rw [CM.run_ret]
  show match (w, p) with | (.ok a, p1) => ((G ρ p).bind fun zs p1 => match op zs with | some x => R.ok x p1 | none => .bad) = R.ok (a.map enc, js) p1 | (.exc k fs, p1) => ((G ρ p).bind fun zs p1 => match op zs with | some x => R.ok x p1 | none => .bad) = R.exc k fs p1 | (.bad, _) => True
  rw [hg]
  cases q : w with
  | ok a =>
    show (match op zs with | some x => R.ok x p | none => R.bad) = _
    rw [h a q]
  | exc k fs => exact absurd q (hx k fs)
  | bad => trivial
theorem iv_L {xs : List α} (h : f ρ p = .ok ⟨eL enc xs, b, c, n⟩ p) : iX f ρ p = .ok (xs.map enc, b ++ c) p := by
  show (f ρ p).bind _ = _
  rw [h]
  rfl
theorem iv_T {xs : List α} (h : f ρ p = .ok ⟨eT enc xs, b, c, n⟩ p) : iX f ρ p = .ok (xs.map enc, b ++ c) p := by
  show (f ρ p).bind _ = _
  rw [h]
  rfl
theorem iv_op {xs : List α} {js : List Nat} {op : List Z → Option (List D × List Nat)} {zs : List Z} (hg : G ρ p = .ok zs p) (h : op zs = some (xs.map enc, js)) : iR op G ρ p = .ok (xs.map enc, js) p := by
  show (G ρ p).bind _ = _
  rw [hg]
  show (match op zs with | some x => R.ok x p | none => R.bad) = _
  rw [h]
theorem en_of {e : α → D} {xs : List α} : opEnum [⟨eL e xs, b, c, n⟩] = some ((enumT 0 xs).map (eP2 eI e), b ++ c) := by
  show some (enumD 0 (xs.map e), _) = _
  rw [enumT_map]
  rfl
theorem zp_L {e : α → D} {e' : β → D} {xs : List α} {ys : List β} : opZip [⟨eL e xs, b1, c1, f1⟩, ⟨eL e' ys, b2, c2, f2⟩] = some ((xs.zip ys).map (eP2 e e'), (b1 ++ c1) ++ (b2 ++ c2)) := by
  show some (zipD (xs.map e) (ys.map e'), _) = _
  rw [zipT_map]
theorem zp_T {e : α → D} {e' : β → D} {xs : List α} {ys : List β} : opZip [⟨eT e xs, b1, c1, f1⟩, ⟨eT e' ys, b2, c2, f2⟩] = some ((xs.zip ys).map (eP2 e e'), (b1 ++ c1) ++ (b2 ++ c2)) := by
  show some (zipD (xs.map e) (ys.map e'), _) = _
  rw [zipT_map]
theorem rg_1 {j : Int} {xs : List Int} (h : rng2T 0 j = .ok xs) : opRng1 [⟨eI j, b, c, n⟩] = some (xs.map eI, []) := rng2_of h
theorem rg_2 {i j : Int} {xs : List Int} (h : rng2T i j = .ok xs) : opRng2 [⟨eI i, b, c, n⟩, ⟨eI j, b1, c1, f1⟩] = some (xs.map eI, []) := rng2_of h
theorem rg_3 {i j k : Int} {xs : List Int} (h : rng3T i j k = .ok xs) : opRng3 [⟨eI i, b, c, n⟩, ⟨eI j, b1, c1, f1⟩, ⟨eI k, b2, c2, f2⟩] = some (xs.map eI, []) := rng3_of h
/-! comprehensions -/
theorem lcT_pure {w : α → Bool} {v : α → β} : ∀ (xs : List α) (p : Option Pen), CM.run (lcT (F := F) (fun x => CM.pure (w x)) (fun x => CM.pure (v x)) xs) p = (.ok ((xs.filter w).map v), p)
  | [], p => CM.run_ret _ _
  | x :: xs, p => by
    show CM.run (CM.bindB (CM.pure (w x)) fun b => bif b then CM.bindB (CM.pure (v x)) fun y => CM.bindB (lcT (fun x => CM.pure (w x)) (fun x => CM.pure (v x)) xs) fun ys => CM.pure (y :: ys) else lcT (fun x => CM.pure (w x)) (fun x => CM.pure (v x)) xs) p = _
    rw [CM.run_bindB, CM.run_ret]
    dsimp only
    rw [List.filter_cons]
    cases w x with
    | false => exact lcT_pure xs p
    | true =>
      dsimp only [cond_true, if_true]
      rw [CM.run_bindB, CM.run_ret]
      dsimp only
      rw [CM.run_bindB, lcT_pure xs p]
      dsimp only
      rw [CM.run_ret]
      rfl
theorem x_lcQ {k f' : Nat} {vs js : List Nat} {mi : IM} {tm : DL.TM} {tt te : M Z} {e : α → D} {e' : β → D} {xs : List α} {ft : α → F Bool} {ge : α → F β} {ρ1 : α → Env} (hi : mi ρ p = .ok (xs.map e, js) p) (hw : wOk (frz js ρ) vs = true) (htm : ∀ a, tm (e a) (wipeE (frz js ρ) vs) = some (ρ1 a)) (ht : ∀ a p, CR (ft a) (tt (ρ1 a) p) p) (he : ∀ a p, XR (ge a) e' [] [] f' (te (ρ1 a) p) p) (hn : k = 0 ∨ f' = k) :
    XR (CM.bindB (lcT ft ge xs) fun ys => CM.ret (limT ys)) (eL e') [] js (k + 1) (eLc k vs mi tm tt te ρ p) p := by
  have h := x_lc (F := F) (ir_p hi) hw htm ht he hn
  unfold XR at h ⊢
  rw [CM.run_bind, CM.run_ret] at h
  exact h
theorem x_lcV {k f' : Nat} {vs js : List Nat} {mi : IM} {tm : DL.TM} {tt te : M Z} {e : α → D} {e' : β → D} {t : F (List α)} {w : α → Bool} {v : α → β} {ρ1 : α → Env} (hi : IR t e js (mi ρ p) p) (hw : wOk (frz js ρ) vs = true) (htm : ∀ a, tm (e a) (wipeE (frz js ρ) vs) = some (ρ1 a)) (ht : ∀ a p, ∃ z, tt (ρ1 a) p = .ok z p ∧ truth z.d = some (w a)) (he : ∀ a p, te (ρ1 a) p = .ok ⟨e' (v a), [], [], f'⟩ p) (hn : k = 0 ∨ f' = k) :
    XR (CM.bind t fun xs => CM.ret (limT ((xs.filter w).map v))) (eL e') [] js (k + 1) (eLc k vs mi tm tt te ρ p) p := by
  have h := x_lc (F := F) hi hw htm (ft := fun x => CM.pure (w x)) (ge := fun x => CM.pure (v x)) (fun a p => by obtain ⟨z, h1, h2⟩ := ht a p; exact c_pure h1 h2) (fun a p => x_pure (he a p)) hn
  unfold XR at h ⊢
  rw [CM.run_bind] at h ⊢
  generalize CM.run t p = y at h ⊢
  rcases y with ⟨a | ⟨k, fs⟩ | _, p2⟩
  · dsimp only at h ⊢
    rw [CM.run_bindB, lcT_pure] at h
    exact h
  · exact h
  · trivial
theorem x_lcW {k f' : Nat} {vs js : List Nat} {mi : IM} {tm : DL.TM} {tt te : M Z} {e : α → D} {e' : β → D} {xs : List α} {w : α → Bool} {v : α → β} {ρ1 : α → Env} (hi : mi ρ p = .ok (xs.map e, js) p) (hw : wOk (frz js ρ) vs = true) (htm : ∀ a, tm (e a) (wipeE (frz js ρ) vs) = some (ρ1 a)) (ht : ∀ a p, ∃ z, tt (ρ1 a) p = .ok z p ∧ truth z.d = some (w a)) (he : ∀ a p, te (ρ1 a) p = .ok ⟨e' (v a), [], [], f'⟩ p) (hn : k = 0 ∨ f' = k) :
    XR (F := F) (CM.ret (limT ((xs.filter w).map v))) (eL e') [] js (k + 1) (eLc k vs mi tm tt te ρ p) p := by
  have h := x_lcV (F := F) (ir_p hi) hw htm ht he hn
  unfold XR at h ⊢
  rw [CM.run_bind, CM.run_ret] at h
  exact h
theorem t_true : ∃ z, eC (.bl true) ρ p = .ok z p ∧ truth z.d = some true := ⟨_, rfl, rfl⟩
theorem t_of {z : Z} {x : Bool} (h : f ρ p = .ok z p) (ht : truth z.d = some x) : ∃ z, f ρ p = .ok z p ∧ truth z.d = some x := ⟨z, h, ht⟩
/-! statements -/
variable {I : σ → Env → Prop} {K : κ → Env → Prop} {er : r → D} {fr : Nat} {ms ma mb : SM}
theorem s_asgP {k : F (Fl σ κ r)} {i : Nat} {ρ' : Env} {a : α} (h : f ρ p = .ok ⟨enc a, b, c, n⟩ p) (hi : i < ρ.length) (hρ : asgN i ⟨enc a, b, c, n⟩ ρ = ρ') (q : SR k I K er fr (ms ρ' p) p) : SR k I K er fr (sSeq (sAsg i f) ms ρ p) p := by
  show SR _ I K er fr (oSeq ((f ρ p).thenO _) ms) p
  rw [thenO_seq, h]
  show SR _ I K er fr (oSeq (if i < ρ.length then .nx (asgN i _ ρ) p else .bad) ms) p
  rw [if_pos hi, hρ]
  exact q
theorem s_ifS {x : Bool} {z : Z} {c : M Z} {t1 t2 : F (Fl τ κ r)} {J : τ → Env → Prop} {k : τ → F (Fl σ κ r)} (h : c ρ p = .ok z p) (ht : truth z.d = some x) (h1 : SR t1 J K er fr (ma ρ p) p) (h2 : SR t2 J K er fr (mb ρ p) p) (g : ∀ s ρ p, J s ρ → SR (k s) I K er fr (ms ρ p) p) :
    SR (bindF (bif x then t1 else t2) k) I K er fr (sSeq (sIf c ma mb) ms ρ p) p := by
  show SR _ I K er fr (oSeq ((c ρ p).thenO _) ms) p
  rw [thenO_seq, h]
  show SR _ I K er fr (oSeq (match truth z.d with | some true => ma ρ p | some false => mb ρ p | none => .bad) ms) p
  rw [ht]
  cases x with
  | true => exact s_seq h1 g
  | false => exact s_seq h2 g
theorem s_ifSO {x : Bool} {z : Z} {c : M Z} {t1 t2 : F (Fl σ κ r)} (h : c ρ p = .ok z p) (ht : truth z.d = some x) (h1 : SR t1 (fun _ _ => False) K er fr (ma ρ p) p) (h2 : SR t2 I K er fr (sSeq mb ms ρ p) p) :
    SR (bif x then t1 else t2) I K er fr (sSeq (sIf c ma mb) ms ρ p) p := by
  show SR _ I K er fr (oSeq ((c ρ p).thenO _) ms) p
  rw [thenO_seq, h]
  show SR _ I K er fr (oSeq (match truth z.d with | some true => ma ρ p | some false => mb ρ p | none => .bad) ms) p
  rw [ht]
  cases x with
  | true => exact s_out h1
  | false => exact h2
theorem s_ifSP {x : Bool} {z : Z} {c : M Z} {t1 t2 : F (Fl σ κ r)} (h : c ρ p = .ok z p) (ht : truth z.d = some x) (h1 : SR t1 I K er fr (sSeq ma ms ρ p) p) (h2 : SR t2 (fun _ _ => False) K er fr (mb ρ p) p) :
    SR (bif x then t1 else t2) I K er fr (sSeq (sIf c ma mb) ms ρ p) p := by
  show SR _ I K er fr (oSeq ((c ρ p).thenO _) ms) p
  rw [thenO_seq, h]
  show SR _ I K er fr (oSeq (match truth z.d with | some true => ma ρ p | some false => mb ρ p | none => .bad) ms) p
  rw [ht]
  cases x with
  | true => exact h1
  | false => exact s_out h2
theorem s_ifT {z : Z} {c : M Z} {t1 : F (Fl σ κ r)} (h : c ρ p = .ok z p) (ht : truth z.d = some true) (h1 : SR t1 I K er fr (sSeq ma ms ρ p) p) : SR t1 I K er fr (sSeq (sIf c ma mb) ms ρ p) p := by
  show SR _ I K er fr (oSeq ((c ρ p).thenO _) ms) p
  rw [thenO_seq, h]
  show SR _ I K er fr (oSeq (match truth z.d with | some true => ma ρ p | some false => mb ρ p | none => .bad) ms) p
  rw [ht]
  exact h1
theorem s_ifF {z : Z} {c : M Z} {t1 : F (Fl σ κ r)} (h : c ρ p = .ok z p) (ht : truth z.d = some false) (h1 : SR t1 I K er fr (sSeq mb ms ρ p) p) : SR t1 I K er fr (sSeq (sIf c ma mb) ms ρ p) p := by
  show SR _ I K er fr (oSeq ((c ρ p).thenO _) ms) p
  rw [thenO_seq, h]
  show SR _ I K er fr (oSeq (match truth z.d with | some true => ma ρ p | some false => mb ρ p | none => .bad) ms) p
  rw [ht]
  exact h1
theorem s_sq {t : F (Fl σ κ r)} (h : SR t I K er fr (sSeq ma (sSeq mb ms) ρ p) p) : SR t I K er fr (sSeq (sSeq ma mb) ms ρ p) p := by
  have e : sSeq (sSeq ma mb) ms ρ p = sSeq ma (sSeq mb ms) ρ p := by
    show oSeq (oSeq (ma ρ p) mb) ms = oSeq (ma ρ p) (sSeq mb ms)
    cases ma ρ p <;> rfl
  rw [e]
  exact h
theorem s_retP {x : r} (h : f ρ p = .ok ⟨er x, b, c, fr⟩ p) : SR (F := F) (CM.pure (.ret x)) I K er fr (sSeq (sRet f) ms ρ p) p := by
  unfold SR
  rw [CM.run_ret]
  show oSeq ((f ρ p).thenO _) ms = _
  rw [h]
  rfl
theorem s_retX {t : F r} (h : XR t er b c fr (f ρ p) p) : SR (CM.bind t fun a => CM.pure (.ret a)) I K er fr (sSeq (sRet f) ms ρ p) p := s_ret h fun _ => rfl
theorem s_raiseP {zs : List Z} {w : List D} {cl k : Nat} (h : G ρ p = .ok zs p) (hn : zs.length = k) (hw : (zs.map (·.d)).reverse = w) : SR (F := F) (CM.ret (.exc cl w)) I K er fr (sSeq (sRaise cl k G) ms ρ p) p := by
  unfold SR
  rw [CM.run_ret]
  show oSeq ((G ρ p).thenO _) ms = _
  rw [h]
  show oSeq (if zs.length = k then .exc cl (zs.map (·.d)).reverse p else .bad) ms = _
  rw [if_pos hn, hw]
  rfl
theorem s_dropP {z : Z} {t : F (Fl σ κ r)} (h : f ρ p = .ok z p) (g : SR t I K er fr (ms ρ p) p) : SR t I K er fr (sSeq (sDrop f) ms ρ p) p := by
  show SR _ I K er fr (oSeq ((f ρ p).thenO _) ms) p
  rw [thenO_seq, h]
  exact g
theorem s_forP {J : τ → Env → Prop} {xs : List α} {js : List Nat} {mi : IM} {tb : τ → α → F (Fl τ τ r)} {k : τ → F (Fl σ κ r)} {tm : DL.TM} {s0 : τ} (hi : mi ρ p = .ok (xs.map enc, js) p) (h0 : J s0 (frz js ρ))
    (hb : ∀ s x ρ p, J s ρ → ∃ ρ1, tm (enc x) ρ = some ρ1 ∧ SR (tb s x) J J er fr (mb ρ1 p) p) (g : ∀ s ρ p, J s ρ → SR (k s) I K er fr (ms ρ p) p) :
    SR (bindF (forT tb xs s0) k) I K er fr (sSeq (sFor mi tm mb) ms ρ p) p := by
  have h := s_for (F := F) (ir_p hi) h0 hb g
  unfold SR at h ⊢
  rw [CM.run_bind, CM.run_ret] at h
  exact h
theorem s_parP {is : List Nat} {zs : List Z} {t : F (Fl σ κ r)} {ρ' : Env} (h : G ρ p = .ok zs p) (hl : is.length = zs.length ∧ allLt is ρ.length = true) (hρ : putAll is zs (frz (fzs zs) ρ) = ρ') (g : SR t I K er fr (ms ρ' p) p) : SR t I K er fr (sSeq (sPar is G) ms ρ p) p := by
  show SR _ I K er fr (oSeq ((G ρ p).thenO _) ms) p
  rw [thenO_seq, h]
  show SR _ I K er fr (oSeq (if is.length = zs.length ∧ allLt is ρ.length = true then .nx (putAll is zs (frz (fzs zs) ρ)) p else .bad) ms) p
  rw [if_pos hl, hρ]
  exact g
theorem s_augP {i o : Nat} {a y : Int} {w : Int → Int → Int} {t : F (Fl σ κ r)} {ρ' : Env} (h : f ρ p = .ok ⟨eI y, b, c, n⟩ p) (ha : ρ[i]? = some (some ⟨.int a, o⟩)) (hρ : asgN i (zS (.int (w a y))) ρ = ρ') (q : SR t I K er fr (ms ρ' p) p) : SR t I K er fr (sSeq (sAug i w f) ms ρ p) p := by
  show SR _ I K er fr (oSeq (match ρ[i]? with | some (some c) => (match c.d with | .int a => (f ρ p).thenO fun z p1 => (match z.d with | .int b => O.nx (asgN i (zS (.int (w a b))) ρ) p1 | _ => .bad) | _ => .bad) | _ => .bad) ms) p
  rw [ha]
  show SR _ I K er fr (oSeq ((f ρ p).thenO _) ms) p
  rw [thenO_seq, h]
  show SR _ I K er fr (ms (asgN i (zS (.int (w a y))) ρ) p) p
  rw [hρ]
  exact q
/-! args that are plain, of statements -/
theorem AR.of {zs : List Z} (h : G ρ p = .ok zs p) : AR (F := F) (CM.pure ()) (fun _ => zs) (G ρ p) p := a_pure h
end
end
end DL
set_option Elab.async false
set_option linter.all false
set_option maxRecDepth 100000
set_option maxHeartbeats 4000000
/-! # The typed layer, part 8: more forms -/
namespace DL
open PySem PySem.Spec PyProof.Rows L2
noncomputable section
section
variable {F : Type → Type} [CM F] {α β γ σ τ κ r : Type} {ρ : Env} {p p1 : Option Pen} {m f g : M Z} {G : M (List Z)} {enc e1 : α → D} {e2 : β → D} {b c b1 c1 b2 c2 b3 c3 : List Nat} {n f1 f2 f3 : Nat} {t : F α}
def isiR (a b : String) : Option Bool := if decide (b ∈ ["bool", "int", "str", "tuple", "list", "dict"]) = true then some (isTy a b) else none
theorem isi_of {d : D} {x y : String} {v : Bool} (h : tyN d = some x) (h2 : isiR x y = some v) : biIsi [⟨d, b, c, n⟩, ⟨.ty y, b1, c1, f1⟩] = some ⟨eB v, [], [], 0⟩ := by
  show (match tyN d, D.ty y with
    | some a, .ty b => if decide (b ∈ ["bool", "int", "str", "tuple", "list", "dict"]) = true then some (zS (.bl (isTy a b))) else none
    | _, _ => none) = _
  rw [h]
  unfold isiR at h2
  split at h2
  · rename_i q
    cases h2
    exact if_pos q
  · cases h2
theorem isi2_of {d : D} {x y z : String} {v : Bool} (h : tyN d = some x) (h2 : (isTy x y || isTy x z) = v) : opIsi2 y z ⟨d, b, c, n⟩ = some ⟨eB v, [], [], 0⟩ := by
  show (match tyN d with | some a => some (zS (.bl (isTy a y || isTy a z))) | none => none) = _
  rw [h]
  show some (zS (.bl (isTy x y || isTy x z))) = _
  rw [h2]
theorem filter_tt (l : List α) : l.filter (fun _ => true) = l := List.filter_eq_self.mpr fun _ _ => rfl
theorem x_lcV0 {k f' : Nat} {vs js : List Nat} {mi : IM} {tm : DL.TM} {te : M Z} {e : α → D} {e' : β → D} {t : F (List α)} {v : α → β} {ρ1 : α → Env} (hi : IR t e js (mi ρ p) p) (hw : wOk (frz js ρ) vs = true) (htm : ∀ a, tm (e a) (wipeE (frz js ρ) vs) = some (ρ1 a)) (he : ∀ a p, te (ρ1 a) p = .ok ⟨e' (v a), [], [], f'⟩ p) (hn : k = 0 ∨ f' = k) :
    XR (CM.bind t fun xs => CM.ret (limT (xs.map v))) (eL e') [] js (k + 1) (eLc k vs mi tm (eC (.bl true)) te ρ p) p := by
  have h := x_lcV (F := F) (w := fun _ => true) hi hw htm (fun a p => t_true) he hn
  simp only [filter_tt] at h
  exact h
theorem x_lcW0 {k f' : Nat} {vs js : List Nat} {mi : IM} {tm : DL.TM} {te : M Z} {e : α → D} {e' : β → D} {xs : List α} {v : α → β} {ρ1 : α → Env} (hi : mi ρ p = .ok (xs.map e, js) p) (hw : wOk (frz js ρ) vs = true) (htm : ∀ a, tm (e a) (wipeE (frz js ρ) vs) = some (ρ1 a)) (he : ∀ a p, te (ρ1 a) p = .ok ⟨e' (v a), [], [], f'⟩ p) (hn : k = 0 ∨ f' = k) :
    XR (F := F) (CM.ret (limT (xs.map v))) (eL e') [] js (k + 1) (eLc k vs mi tm (eC (.bl true)) te ρ p) p := by
  have h := x_lcW (F := F) (w := fun _ => true) hi hw htm (fun a p => t_true) he hn
  simp only [filter_tt] at h
  exact h
variable {I : σ → Env → Prop} {K : κ → Env → Prop} {er : r → D} {fr : Nat} {ms ma mb : SM}
theorem n_cutL {l h : M (Option Int)} {x : List α} {lo hi : Option Int} (hl : l ρ p = .ok lo p) (hh : h ρ p = .ok hi p) : XR (F := F) (CM.pure (cutT x lo hi)) (eL enc) [] c 1 ((l ρ p).bind fun lo p2 => (h ρ p2).bind fun hi p3 => okO (opCut ⟨eL enc x, b, c, n⟩ lo hi) p3) p := by
  rw [hl]
  show XR _ (eL enc) [] c 1 ((h ρ p).bind _) p
  rw [hh]
  exact x_pure (by
    show R.ok (Z.mk (.lst (cutD (x.map enc) lo hi)) [] c 1) p = _
    rw [cut_map])
theorem n_cutT {l h : M (Option Int)} {x : List α} {lo hi : Option Int} (hl : l ρ p = .ok lo p) (hh : h ρ p = .ok hi p) : XR (F := F) (CM.pure (cutT x lo hi)) (eT enc) b c 0 ((l ρ p).bind fun lo p2 => (h ρ p2).bind fun hi p3 => okO (opCut ⟨eT enc x, b, c, n⟩ lo hi) p3) p := by
  rw [hl]
  show XR _ (eT enc) b c 0 ((h ρ p).bind _) p
  rw [hh]
  exact x_pure (by
    show R.ok (Z.mk (.tup (cutD (x.map enc) lo hi)) b c 0) p = _
    rw [cut_map])
theorem s_at {ρ0 : Env} {t : F (Fl σ κ r)} (e : ρ0 = ρ) (h : SR t I K er fr (ms ρ p) p) : SR t I K er fr (ms ρ0 p) p := by
  subst e
  exact h
theorem s_unpP {k : α → F (Fl σ κ r)} {tm : DL.TM} {ρ' : α → Env} (h : XR t enc b c n (f ρ p) p) (hρ : ∀ a, tm (enc a) (frz (b ++ c) ρ) = some (ρ' a)) (g : ∀ a p, SR (k a) I K er fr (ms (ρ' a) p) p) :
    SR (CM.bind t k) I K er fr (sSeq (sUnp tm f) ms ρ p) p := by
  show SR (F := F) _ I K er fr (oSeq ((f ρ p).thenO _) ms) p
  rw [thenO_seq]
  refine h.thenS fun a p1 => ?_
  show SR (F := F) _ I K er fr (oSeq (match tm (enc a) (frz (b ++ c) ρ) with | some ρ2 => .nx ρ2 p1 | none => .bad) ms) p1
  rw [hρ a]
  exact g a p1
/-! a, b = x, y, where one is no plain value -/
theorem sp_0 {is : List Nat} {t : F (Fl σ κ r)} (h : SR t I K er fr ((G ρ p).thenO fun zs p1 => oSeq (if is.length = zs.length ∧ allLt is ρ.length = true then .nx (putAll is zs (frz (fzs zs) ρ)) p1 else .bad) ms) p) : SR t I K er fr (sSeq (sPar is G) ms ρ p) p := by
  show SR (F := F) _ I K er fr (oSeq ((G ρ p).thenO _) ms) p
  rw [thenO_seq]
  exact h
theorem sp_x {k : α → F (Fl σ κ r)} {H : List Z → Option Pen → O} (h : XR t enc b c n (f ρ p) p) (g : ∀ a p1, SR (k a) I K er fr ((G ρ p1).thenO fun zs p2 => H (⟨enc a, b, c, n⟩ :: zs) p2) p1) : SR (CM.bind t k) I K er fr ((aCons f G ρ p).thenO H) p := by
  have e : ∀ o : R Z, ((o.bind fun z p1 => (G ρ p1).bind fun zs p2 => R.ok (z :: zs) p2).thenO H) = o.thenO fun z p1 => (G ρ p1).thenO fun zs p2 => H (z :: zs) p2 := by
    intro o
    cases o with
    | ok a p1 => 
      show ((G ρ p1).bind fun zs p2 => R.ok (a :: zs) p2).thenO H = _
      show _ = (G ρ p1).thenO _
      cases G ρ p1 <;> rfl
    | exc _ _ _ => rfl
    | bad => rfl
  show SR (F := F) _ I K er fr (((f ρ p).bind fun z p1 => (G ρ p1).bind fun zs p2 => R.ok (z :: zs) p2).thenO H) p
  rw [e]
  exact h.thenS fun a p1 => g a p1
theorem sp_n {is : List Nat} {zs : List Z} {t : F (Fl σ κ r)} {ρ' : Env} (hl : is.length = zs.length ∧ allLt is ρ.length = true) (hρ : putAll is zs (frz (fzs zs) ρ) = ρ') (g : SR t I K er fr (ms ρ' p) p) : SR t I K er fr ((aNil ρ p).thenO fun ys p1 => oSeq (if is.length = zs.length ∧ allLt is ρ.length = true then .nx (putAll is zs (frz (fzs zs) ρ)) p1 else .bad) ms) p := by
  show SR (F := F) _ I K er fr (oSeq (if is.length = zs.length ∧ allLt is ρ.length = true then .nx (putAll is zs (frz (fzs zs) ρ)) p else .bad) ms) p
  rw [if_pos hl, hρ]
  exact g
theorem s_tailB {I : σ → Env → Prop} {K : κ → Env → Prop} {x : Bool} (h : x = true → ∀ p, ms ρ p = .ret ⟨.bl true, [], [], 0⟩ p) : SR (F := F) (bif x then CM.pure (.ret true) else CM.ret .bad) I K eB 0 (ms ρ p) p := by
  unfold SR
  cases x with
  | true =>
    dsimp only [cond_true]
    rw [CM.run_ret]
    exact h rfl p
  | false =>
    dsimp only [cond_false]
    rw [CM.run_ret]
    trivial
end
/-! ### sameness of trees -/
mutual
def beqD : D → D → Bool
  | .non, .non => true
  | .bl a, .bl b => a == b
  | .int a, .int b => a == b
  | .str a, .str b => a == b
  | .tup xs, .tup ys => beqDs xs ys
  | .lst xs, .lst ys => beqDs xs ys
  | .dic a b, .dic c d => beqDs a c && beqDs b d
  | .obj c xs, .obj d ys => c == d && beqDs xs ys
  | _, _ => false
def beqDs : List D → List D → Bool
  | [], [] => true
  | x :: xs, y :: ys => beqD x y && beqDs xs ys
  | _, _ => false
end
mutual
theorem beqD_ok : ∀ (a b : D), beqD a b = true → a = b
  | .non, .non, _ => rfl
  | .bl a, .bl b, h => by
    have h : (a == b) = true := h
    rw [beq_iff_eq.mp h]
  | .int a, .int b, h => by
    have h : (a == b) = true := h
    rw [beq_iff_eq.mp h]
  | .str a, .str b, h => by
    have h : (a == b) = true := h
    rw [beq_iff_eq.mp h]
  | .tup xs, .tup ys, h => congrArg D.tup (beqDs_ok xs ys h)
  | .lst xs, .lst ys, h => congrArg D.lst (beqDs_ok xs ys h)
  | .dic a b, .dic c d, h => by
    have h : (beqDs a c && beqDs b d) = true := h
    rw [Bool.and_eq_true] at h
    rw [beqDs_ok a c h.1, beqDs_ok b d h.2]
  | .obj c xs, .obj d ys, h => by
    have h : (c == d && beqDs xs ys) = true := h
    rw [Bool.and_eq_true] at h
    rw [beq_iff_eq.mp h.1, beqDs_ok xs ys h.2]
theorem beqDs_ok : ∀ (a b : List D), beqDs a b = true → a = b
  | [], [], _ => rfl
  | x :: xs, y :: ys, h => by
    have h : (beqD x y && beqDs xs ys) = true := h
    rw [Bool.and_eq_true] at h
    rw [beqD_ok x y h.1, beqDs_ok xs ys h.2]
end
def memD (d : D) (l : List D) : Bool := l.any fun x => beqD x d
theorem mem_of_memD {d : D} {l : List D} (h : memD d l = true) : d ∈ l := by
  unfold memD at h
  rw [List.any_eq_true] at h
  obtain ⟨x, hx, e⟩ := h
  rw [← beqD_ok x d e]
  exact hx
def orD (d : D) : List D → Prop
  | [] => False
  | [x] => d = x
  | x :: xs => d = x ∨ orD d xs
theorem orD_of {d : D} : ∀ {l : List D}, d ∈ l → orD d l
  | [], h => by cases h
  | [x], h => by
    show d = x
    simpa using h
  | x :: y :: xs, h => by
    rcases List.mem_cons.mp h with h | h
    · exact .inl h
    · exact .inr (orD_of h)
theorem mem1 {d : D} {l : List D} (h : memD d l = true) : orD d l := orD_of (mem_of_memD h)
end
end DL
set_option Elab.async false
set_option linter.all false
set_option maxRecDepth 100000
set_option maxHeartbeats 4000000
/-! # The typed layer, part 9: [::-1], rows of ranges, the greatest and the least; tuples or lists -/
namespace DL
open PySem PySem.Spec PyProof.Rows L2
noncomputable section
section
variable {α β : Type} {e : α → D} {b1 c1 b2 c2 : List Nat} {f1 f2 : Nat}
theorem o_revL {x : List α} : opRev ⟨eL e x, b1, c1, f1⟩ = some ⟨eL e x.reverse, [], c1, 1⟩ := by
  show some (Z.mk (.lst (x.map e).reverse) [] c1 1) = _
  rw [eL, List.map_reverse]
theorem o_revT {x : List α} : opRev ⟨eT e x, b1, c1, f1⟩ = some ⟨eT e x.reverse, [], c1, 0⟩ := by
  show some (Z.mk (.tup (x.map e).reverse) [] c1 0) = _
  rw [eT, List.map_reverse]
@[irreducible] def lrT (i j : Int) : E (List Int) := if rgOkB i j = true then .ok (rgT i 1 (j - i).toNat) else .bad
theorem o_lrL {i j : Int} {r : List Int} (h : lrT i j = .ok r) : opLrL ⟨eI i, b1, c1, f1⟩ ⟨eI j, b2, c2, f2⟩ = some ⟨eL eI r, [], [], 1⟩ := by
  unfold lrT at h
  obtain ⟨h1, rfl⟩ := ok_if h
  show (if rgOkB i j = true then some (Z.mk (.lst (rangeD i 1 (j - i).toNat)) [] [] 1) else none) = _
  rw [if_pos h1, rgT_map]
theorem o_lrT {i j : Int} {r : List Int} (h : lrT i j = .ok r) : opLrT ⟨eI i, b1, c1, f1⟩ ⟨eI j, b2, c2, f2⟩ = some ⟨eT eI r, [], [], 0⟩ := by
  unfold lrT at h
  obtain ⟨h1, rfl⟩ := ok_if h
  show (if rgOkB i j = true then some (Z.mk (.tup (rangeD i 1 (j - i).toNat)) [] [] 0) else none) = _
  rw [if_pos h1, rgT_map]
theorem o_lrL1 {j : Int} {r : List Int} (h : lrT 0 j = .ok r) : opLrL (zS (.int 0)) ⟨eI j, b2, c2, f2⟩ = some ⟨eL eI r, [], [], 1⟩ := o_lrL (i := 0) h
theorem o_lrT1 {j : Int} {r : List Int} (h : lrT 0 j = .ok r) : opLrT (zS (.int 0)) ⟨eI j, b2, c2, f2⟩ = some ⟨eT eI r, [], [], 0⟩ := o_lrT (i := 0) h
@[irreducible] def bestT (g : List Int → Int) (xs : List Int) : E Int := if decide (0 < xs.length) = true then .ok (g xs) else .bad
theorem o_bestL {g : List Int → Int} {x : List Int} {r : Int} (h : bestT g x = .ok r) : biBest g [⟨eL eI x, b1, c1, f1⟩] = some ⟨eI r, [], [], 0⟩ := by
  unfold bestT at h
  obtain ⟨h1, rfl⟩ := ok_if h
  show (match intsOf (x.map D.int) with | some ns => if decide (0 < ns.length) = true then some (zS (.int (g ns))) else none | none => none) = _
  rw [intsOf_map]
  exact if_pos h1
theorem o_bestT {g : List Int → Int} {x : List Int} {r : Int} (h : bestT g x = .ok r) : biBest g [⟨eT eI x, b1, c1, f1⟩] = some ⟨eI r, [], [], 0⟩ := by
  unfold bestT at h
  obtain ⟨h1, rfl⟩ := ok_if h
  show (match intsOf (x.map D.int) with | some ns => if decide (0 < ns.length) = true then some (zS (.int (g ns))) else none | none => none) = _
  rw [intsOf_map]
  exact if_pos h1
/-! ### a tuple or a list (true: a list) -/
abbrev eU (e : α → D) : Bool × List α → D := fun x => bif x.1 then .lst (x.2.map e) else .tup (x.2.map e)
variable {F : Type → Type} [CM F] {ρ : Env} {p : Option Pen} {f : M Z} {n : Nat} {b c : List Nat} {enc : α → D}
theorem iv_U {x : Bool × List α} (h : f ρ p = .ok ⟨eU enc x, b, c, n⟩ p) : iX f ρ p = .ok (x.2.map enc, b ++ c) p := by
  show (f ρ p).bind _ = _
  rw [h]
  obtain ⟨t, x⟩ := x
  cases t <;> rfl
theorem i_U {t : F (Bool × List α)} (h : XR t (eU enc) b1 c1 f1 (f ρ p) p) : IR (CM.bind t fun x => CM.pure x.2) enc (b1 ++ c1) (iX f ρ p) p := by
  unfold XR at h
  unfold IR
  rw [CM.run_bind]
  generalize CM.run t p = x at h ⊢
  rcases x with ⟨⟨t, a⟩ | ⟨k, fs⟩ | _, p1⟩
  · have h : f ρ p = _ := h
    simp only [CM.run_ret]
    show (f ρ p).bind _ = _
    rw [h]
    cases t <;> rfl
  · have h : f ρ p = _ := h
    show (f ρ p).bind _ = _
    rw [h]
    rfl
  · trivial
theorem isi2_U {x : Bool × List α} : opIsi2 "tuple" "list" ⟨eU enc x, b, c, n⟩ = some ⟨eB true, [], [], 0⟩ := by
  obtain ⟨t, x⟩ := x
  cases t
  · exact isi2_of (v := true) rfl (by decide +kernel)
  · exact isi2_of (v := true) rfl (by decide +kernel)
theorem isi_UT {x : Bool × List α} : biIsi [⟨eU enc x, b, c, n⟩, ⟨.ty "tuple", b1, c1, f1⟩] = some ⟨eB (!x.1), [], [], 0⟩ := by
  obtain ⟨t, x⟩ := x
  cases t
  · exact isi_of (v := true) rfl (by decide +kernel)
  · exact isi_of (v := false) rfl (by decide +kernel)
theorem isi_UL {x : Bool × List α} : biIsi [⟨eU enc x, b, c, n⟩, ⟨.ty "list", b1, c1, f1⟩] = some ⟨eB x.1, [], [], 0⟩ := by
  obtain ⟨t, x⟩ := x
  cases t
  · exact isi_of (v := false) rfl (by decide +kernel)
  · exact isi_of (v := true) rfl (by decide +kernel)
theorem o_lenU {x : Bool × List α} : biLen [⟨eU enc x, b1, c1, f1⟩] = some ⟨eI x.2.length, [], [], 0⟩ := by
  obtain ⟨t, x⟩ := x
  cases t
  · exact o_lenT (e := enc)
  · exact o_lenL (e := enc)
theorem o_tupU {x : Bool × List α} : ∃ b' c', biTuple [⟨eU enc x, b1, c1, f1⟩] = some ⟨eT enc x.2, b', c', 0⟩ := by
  obtain ⟨t, x⟩ := x
  cases t
  · exact ⟨_, _, rfl⟩
  · exact ⟨_, _, rfl⟩
theorem eU_map {e' : β → D} {g : α → β} {t : Bool} {x : List α} (h : ∀ a, e a = e' (g a)) : (bif t then D.lst (x.map e) else D.tup (x.map e)) = eU e' (t, x.map g) := by
  show _ = bif t then D.lst ((x.map g).map e') else D.tup ((x.map g).map e')
  rw [List.map_map, show e' ∘ g = e from funext fun a => (h a).symm]
end
/-! ### no errors -/
section
variable {α : Type} {k : Nat} {fs : List D}
theorem mulT_nx {i j : Int} : mulT i j ≠ .exc k fs := by
  unfold mulT
  exact if_nx
theorem fdivT_nx {i j : Int} : fdivT i j ≠ .exc k fs := by
  unfold fdivT
  exact if_nx
theorem modT_nx {i j : Int} : modT i j ≠ .exc k fs := by
  unfold modT
  exact if_nx
theorem powT_nx {i j : Int} : powT i j ≠ .exc k fs := by
  unfold powT
  exact if_nx
theorem shlT_nx {i j : Int} : shlT i j ≠ .exc k fs := by
  unfold shlT
  exact if_nx
theorem shrT_nx {i j : Int} : shrT i j ≠ .exc k fs := by
  unfold shrT
  exact if_nx
theorem appT_nx {x y : List α} : appT x y ≠ .exc k fs := by
  unfold appT
  exact if_nx
theorem repT_nx {x : List α} {i : Int} : repT x i ≠ .exc k fs := by
  unfold repT
  exact if_nx
theorem limT_nx {x : List α} : limT x ≠ .exc k fs := by
  unfold limT
  exact if_nx
theorem rng2T_nx {i j : Int} : rng2T i j ≠ .exc k fs := by
  unfold rng2T
  exact if_nx
theorem rng3T_nx {i j l : Int} : rng3T i j l ≠ .exc k fs := by
  unfold rng3T
  exact if_nx
theorem sortSetT_nx {x : List Int} : sortSetT x ≠ .exc k fs := by
  unfold sortSetT
  exact if_nx
theorem lrT_nx {i j : Int} : lrT i j ≠ .exc k fs := by
  unfold lrT
  exact if_nx
theorem bestT_nx {g : List Int → Int} {x : List Int} : bestT g x ≠ .exc k fs := by
  unfold bestT
  exact if_nx
end
/-! ### operators by their parts -/
section
variable {α β γ : Type} {F : Type → Type} [CM F] {ρ : Env} {p : Option Pen} {f g : M Z} {e1 : α → D} {e2 : β → D} {e3 : γ → D} {b1 c1 b2 c2 b3 c3 : List Nat} {f1 f2 f3 : Nat} {ta : F α} {tb : F β} {op : Z → Z → Option Z} {o1 : Z → Option Z} {bo : List Z → Option Z} {x y : Z}
theorem op_ppE {w : E γ} (pa : f ρ p = .ok x p) (pb : g ρ p = .ok y p) (h : ∀ r, w = .ok r → op x y = some ⟨e3 r, b3, c3, f3⟩) (hx : ∀ k fs, w ≠ .exc k fs) : XR (F := F) (CM.ret w) e3 b3 c3 f3 (eOp op f g ρ p) p :=
  b_p (K := fun x p1 => (g ρ p1).bind fun y p2 => okO (op x y) p2) pa (b_p pb (n_opE h hx))
theorem op_pxE {w : β → E γ} (pa : f ρ p = .ok x p) (hb : XR tb e2 b2 c2 f2 (g ρ p) p) (h : ∀ b r, w b = .ok r → op x ⟨e2 b, b2, c2, f2⟩ = some ⟨e3 r, b3, c3, f3⟩) (hx : ∀ b k fs, w b ≠ .exc k fs) : XR (CM.bind tb fun b => CM.ret (w b)) e3 b3 c3 f3 (eOp op f g ρ p) p :=
  b_p (K := fun x p1 => (g ρ p1).bind fun y p2 => okO (op x y) p2) pa (b_x hb fun b p1 => n_opE (h b) (hx b))
theorem op_xpE {w : α → E γ} (ha : XR ta e1 b1 c1 f1 (f ρ p) p) (pb : ∀ p, g ρ p = .ok y p) (h : ∀ a r, w a = .ok r → op ⟨e1 a, b1, c1, f1⟩ y = some ⟨e3 r, b3, c3, f3⟩) (hx : ∀ a k fs, w a ≠ .exc k fs) : XR (CM.bind ta fun a => CM.ret (w a)) e3 b3 c3 f3 (eOp op f g ρ p) p :=
  b_x (K := fun x p1 => (g ρ p1).bind fun y p2 => okO (op x y) p2) ha fun a p1 => b_p (pb p1) (n_opE (h a) (hx a))
theorem op_xxE {w : α → β → E γ} (ha : XR ta e1 b1 c1 f1 (f ρ p) p) (hb : ∀ p, XR tb e2 b2 c2 f2 (g ρ p) p) (h : ∀ a b r, w a b = .ok r → op ⟨e1 a, b1, c1, f1⟩ ⟨e2 b, b2, c2, f2⟩ = some ⟨e3 r, b3, c3, f3⟩) (hx : ∀ a b k fs, w a b ≠ .exc k fs) : XR (CM.bind ta fun a => CM.bind tb fun b => CM.ret (w a b)) e3 b3 c3 f3 (eOp op f g ρ p) p :=
  b_x (K := fun x p1 => (g ρ p1).bind fun y p2 => okO (op x y) p2) ha fun a p1 => b_x (hb p1) fun b p2 => n_opE (h a b) (hx a b)
theorem op_pxT {w : β → γ} (pa : f ρ p = .ok x p) (hb : XR tb e2 b2 c2 f2 (g ρ p) p) (h : ∀ b, op x ⟨e2 b, b2, c2, f2⟩ = some ⟨e3 (w b), b3, c3, f3⟩) : XR (CM.bind tb fun b => CM.pure (w b)) e3 b3 c3 f3 (eOp op f g ρ p) p :=
  b_p (K := fun x p1 => (g ρ p1).bind fun y p2 => okO (op x y) p2) pa (b_x hb fun b p1 => n_op (h b))
theorem op_xpT {w : α → γ} (ha : XR ta e1 b1 c1 f1 (f ρ p) p) (pb : ∀ p, g ρ p = .ok y p) (h : ∀ a, op ⟨e1 a, b1, c1, f1⟩ y = some ⟨e3 (w a), b3, c3, f3⟩) : XR (CM.bind ta fun a => CM.pure (w a)) e3 b3 c3 f3 (eOp op f g ρ p) p :=
  b_x (K := fun x p1 => (g ρ p1).bind fun y p2 => okO (op x y) p2) ha fun a p1 => b_p (pb p1) (n_op (h a))
theorem op_xxT {w : α → β → γ} (ha : XR ta e1 b1 c1 f1 (f ρ p) p) (hb : ∀ p, XR tb e2 b2 c2 f2 (g ρ p) p) (h : ∀ a b, op ⟨e1 a, b1, c1, f1⟩ ⟨e2 b, b2, c2, f2⟩ = some ⟨e3 (w a b), b3, c3, f3⟩) : XR (CM.bind ta fun a => CM.bind tb fun b => CM.pure (w a b)) e3 b3 c3 f3 (eOp op f g ρ p) p :=
  b_x (K := fun x p1 => (g ρ p1).bind fun y p2 => okO (op x y) p2) ha fun a p1 => b_x (hb p1) fun b p2 => n_op (h a b)
theorem un_pE {w : E γ} (pa : f ρ p = .ok x p) (h : ∀ r, w = .ok r → o1 x = some ⟨e3 r, b3, c3, f3⟩) (hx : ∀ k fs, w ≠ .exc k fs) : XR (F := F) (CM.ret w) e3 b3 c3 f3 (eUn o1 f ρ p) p :=
  b_p (K := fun x p1 => okO (o1 x) p1) pa (n_opE h hx)
theorem un_xE {w : α → E γ} (ha : XR ta e1 b1 c1 f1 (f ρ p) p) (h : ∀ a r, w a = .ok r → o1 ⟨e1 a, b1, c1, f1⟩ = some ⟨e3 r, b3, c3, f3⟩) (hx : ∀ a k fs, w a ≠ .exc k fs) : XR (CM.bind ta fun a => CM.ret (w a)) e3 b3 c3 f3 (eUn o1 f ρ p) p :=
  b_x (K := fun x p1 => okO (o1 x) p1) ha fun a p1 => n_opE (h a) (hx a)
theorem un_xT {w : α → γ} (ha : XR ta e1 b1 c1 f1 (f ρ p) p) (h : ∀ a, o1 ⟨e1 a, b1, c1, f1⟩ = some ⟨e3 (w a), b3, c3, f3⟩) : XR (CM.bind ta fun a => CM.pure (w a)) e3 b3 c3 f3 (eUn o1 f ρ p) p :=
  b_x (K := fun x p1 => okO (o1 x) p1) ha fun a p1 => n_op (h a)
theorem cb_pE {w : E γ} (pa : f ρ p = .ok x p) (h : ∀ r, w = .ok r → bo [x] = some ⟨e3 r, b3, c3, f3⟩) (hx : ∀ k fs, w ≠ .exc k fs) : XR (F := F) (CM.ret w) e3 b3 c3 f3 (eCB bo (aCons f aNil) ρ p) p := by
  rw [cb_one]
  exact b_p (K := fun z p1 => okO (bo [z]) p1) pa (n_opE h hx)
theorem cb_xE {w : α → E γ} (ha : XR ta e1 b1 c1 f1 (f ρ p) p) (h : ∀ a r, w a = .ok r → bo [⟨e1 a, b1, c1, f1⟩] = some ⟨e3 r, b3, c3, f3⟩) (hx : ∀ a k fs, w a ≠ .exc k fs) : XR (CM.bind ta fun a => CM.ret (w a)) e3 b3 c3 f3 (eCB bo (aCons f aNil) ρ p) p := by
  rw [cb_one]
  exact b_x (K := fun z p1 => okO (bo [z]) p1) ha fun a p1 => n_opE (h a) (hx a)
theorem cb_xT {w : α → γ} (ha : XR ta e1 b1 c1 f1 (f ρ p) p) (h : ∀ a, bo [⟨e1 a, b1, c1, f1⟩] = some ⟨e3 (w a), b3, c3, f3⟩) : XR (CM.bind ta fun a => CM.pure (w a)) e3 b3 c3 f3 (eCB bo (aCons f aNil) ρ p) p := by
  rw [cb_one]
  exact b_x (K := fun z p1 => okO (bo [z]) p1) ha fun a p1 => n_op (h a)
end
/-! ### parallel stores of two and three -/
section
variable {α β γ σ κ r : Type} {F : Type → Type} [CM F] {ρ : Env} {p : Option Pen} {f g h : M Z} {e1 : α → D} {e2 : β → D} {e3 : γ → D} {b1 c1 b2 c2 b3 c3 : List Nat} {f1 f2 f3 : Nat} {ta : F α} {tb : F β} {tc : F γ} {I : σ → Env → Prop} {K : κ → Env → Prop} {er : r → D} {fr : Nat} {ms : SM} {is : List Nat}
theorem s_par2 {k : α → β → F (Fl σ κ r)} {ρ' : α → β → Env} (ha : XR ta e1 b1 c1 f1 (f ρ p) p) (hb : ∀ p, XR tb e2 b2 c2 f2 (g ρ p) p) (hl : is.length = 2) (hl' : allLt is ρ.length = true) (hρ : ∀ a b, putAll is [⟨e1 a, b1, c1, f1⟩, ⟨e2 b, b2, c2, f2⟩] (frz (fzs [⟨e1 a, b1, c1, f1⟩, ⟨e2 b, b2, c2, f2⟩]) ρ) = ρ' a b) (q : ∀ a b p, SR (k a b) I K er fr (ms (ρ' a b) p) p) :
    SR (CM.bind ta fun a => CM.bind tb fun b => k a b) I K er fr (sSeq (sPar is (aCons f (aCons g aNil))) ms ρ p) p := by
  refine sp_0 (sp_x ha fun a p1 => sp_x (hb p1) fun b p2 => ?_)
  exact sp_n (zs := [⟨e1 a, b1, c1, f1⟩, ⟨e2 b, b2, c2, f2⟩]) ⟨hl, hl'⟩ (hρ a b) (q a b p2)
theorem s_par3 {k : α → β → γ → F (Fl σ κ r)} {ρ' : α → β → γ → Env} (ha : XR ta e1 b1 c1 f1 (f ρ p) p) (hb : ∀ p, XR tb e2 b2 c2 f2 (g ρ p) p) (hc : ∀ p, XR tc e3 b3 c3 f3 (h ρ p) p) (hl : is.length = 3) (hl' : allLt is ρ.length = true) (hρ : ∀ a b c, putAll is [⟨e1 a, b1, c1, f1⟩, ⟨e2 b, b2, c2, f2⟩, ⟨e3 c, b3, c3, f3⟩] (frz (fzs [⟨e1 a, b1, c1, f1⟩, ⟨e2 b, b2, c2, f2⟩, ⟨e3 c, b3, c3, f3⟩]) ρ) = ρ' a b c) (q : ∀ a b c p, SR (k a b c) I K er fr (ms (ρ' a b c) p) p) :
    SR (CM.bind ta fun a => CM.bind tb fun b => CM.bind tc fun c => k a b c) I K er fr (sSeq (sPar is (aCons f (aCons g (aCons h aNil)))) ms ρ p) p := by
  refine sp_0 (sp_x ha fun a p1 => sp_x (hb p1) fun b p2 => sp_x (hc p2) fun c p3 => ?_)
  exact sp_n (zs := [⟨e1 a, b1, c1, f1⟩, ⟨e2 b, b2, c2, f2⟩, ⟨e3 c, b3, c3, f3⟩]) ⟨hl, hl'⟩ (hρ a b c) (q a b c p3)
end
end
end DL
set_option Elab.async false
set_option linter.all false
set_option maxRecDepth 100000
set_option maxHeartbeats 4000000
/-! # Typed layer 10: ranges, enumerate, zip of parts that may fail -/
namespace DL
open PySem PySem.Spec PyProof.Rows L2
noncomputable section
/-- a slot that holds a scalar -/
@[reducible] def flatC (d : D) : Cell := ⟨d, 0⟩
section
variable {α β γ σ κ r : Type} {F : Type → Type} [CM F] {ρ : Env} {p : Option Pen} {f g : M Z} {G : M (List Z)} {enc : β → D} {e1 : α → D} {b1 c1 js : List Nat} {f1 : Nat} {t : F α} {tl : F (List β)}
theorem li_nil {K : List Z → Option Pen → R (List D × List Nat)} (k : IR tl enc js (K [] p) p) : IR tl enc js ((aNil ρ p).bind K) p := k
theorem li_p {z : Z} {K : List Z → Option Pen → R (List D × List Nat)} (h : f ρ p = .ok z p) (k : IR tl enc js ((G ρ p).bind fun zs p1 => K (z :: zs) p1) p) : IR tl enc js ((aCons f G ρ p).bind K) p := by
  show IR tl enc js (((f ρ p).bind fun z p1 => (G ρ p1).bind fun zs p2 => R.ok (z :: zs) p2).bind K) p
  rw [h, R.bind_assoc]
  show IR tl enc js ((((G ρ p).bind fun zs p2 => R.ok (z :: zs) p2)).bind K) p
  rw [R.bind_assoc]
  exact k
theorem li_x {k : α → F (List β)} {K : List Z → Option Pen → R (List D × List Nat)} (h : XR t e1 b1 c1 f1 (f ρ p) p) (g : ∀ a p1, IR (k a) enc js ((G ρ p1).bind fun zs p2 => K (⟨e1 a, b1, c1, f1⟩ :: zs) p2) p1) : IR (CM.bind t k) enc js ((aCons f G ρ p).bind K) p := by
  show IR _ enc js (((f ρ p).bind fun z p1 => (G ρ p1).bind fun zs p2 => R.ok (z :: zs) p2).bind K) p
  rw [R.bind_assoc]
  refine h.bindI fun a p1 => ?_
  rw [R.bind_assoc]
  exact g a p1
theorem li_E {w : E (List β)} {o : Option (List D × List Nat)} (h : ∀ xs, w = .ok xs → o = some (xs.map enc, js)) (hx : ∀ k fs, w ≠ .exc k fs) : IR (F := F) (CM.ret w) enc js (match (generalizing := false) o with | some x => R.ok x p | none => .bad) p := by
  unfold IR
  rw [CM.run_ret]
  cases q : w with
  | ok a =>
    rw [h a q]
  | exc k fs => exact absurd q (hx k fs)
  | bad => trivial
theorem li_P {xs : List β} {o : Option (List D × List Nat)} (h : o = some (xs.map enc, js)) : IR (F := F) (CM.pure xs) enc js (match (generalizing := false) o with | some x => R.ok x p | none => .bad) p := by
  unfold IR
  rw [CM.run_ret, h]
end
/-! ### a tuple many times over -/
section
variable {α : Type} {e : α → D} {b1 c1 b2 c2 : List Nat} {f1 f2 : Nat}
@[irreducible] def repTT {α : Type} (xs : List α) (k : Int) : E (List α) := if (!xs.isEmpty && decide (2 ≤ k) && decide (k ≤ 1000) && decide (xs.length ≤ 1000)) = true then .ok (List.replicate k.toNat xs).flatten else .bad
theorem repTT_nx {x : List α} {i : Int} {k : Nat} {fs : List D} : repTT x i ≠ .exc k fs := by
  unfold repTT
  exact if_nx
theorem o_repTT {x r : List α} {k : Int} (h : repTT x k = .ok r) : opMul ⟨eT e x, b1, c1, f1⟩ ⟨.int k, b2, c2, f2⟩ = some ⟨eT e r, b1, c1, 0⟩ := by
  unfold repTT at h
  obtain ⟨h1, rfl⟩ := ok_if h
  unfold opMul
  dsimp only [eT]
  have e1 : (x.map e).isEmpty = x.isEmpty := by cases x <;> rfl
  rw [e1, List.length_map, if_pos h1, repD_map]
end
end
end DL
set_option Elab.async false
set_option linter.all false
set_option maxRecDepth 100000
set_option maxHeartbeats 4000000
/-! # Typed layer 11: found.append(left.pop(i)) -/
namespace DL
open PySem PySem.Spec PyProof.Rows L2
noncomputable section
section
variable {α β γ σ κ r : Type} {F : Type → Type} [CM F] {ρ : Env} {p : Option Pen} {I : σ → Env → Prop} {K : κ → Env → Prop} {er : r → D} {fr : Nat}
@[irreducible] def popT {α : Type} (xs : List α) (k : Int) : E (α × List α) := if (decide (0 ≤ k) && decide (k < 2 ^ 62)) = true then (match xs[k.toNat]? with | some x => .ok (x, xs.eraseIdx k.toNat) | none => .bad) else .bad
theorem popT_of {xs ys : List α} {x : α} {k : Int} (h : popT xs k = .ok (x, ys)) : 0 ≤ k ∧ k < 2 ^ 62 ∧ xs[k.toNat]? = some x ∧ ys = xs.eraseIdx k.toNat := by
  unfold popT at h
  split at h
  · rename_i q
    simp only [Bool.and_eq_true, decide_eq_true_eq] at q
    split at h
    · rename_i e
      cases h
      exact ⟨q.1, q.2, e, rfl⟩
    · cases h
  · cases h
theorem popT_nx {xs : List α} {k : Int} {c : Nat} {fs : List D} : popT xs k ≠ .exc c fs := by
  unfold popT
  split
  · split <;> exact fun h => nomatch h
  · exact fun h => nomatch h
theorem map_erase {α β : Type} (f : α → β) : ∀ (l : List α) (k : Nat), (l.map f).eraseIdx k = (l.eraseIdx k).map f
  | [], _ => rfl
  | _ :: _, 0 => rfl
  | x :: l, k + 1 => by
    show f x :: (l.map f).eraseIdx k = f x :: (l.eraseIdx k).map f
    rw [map_erase f l k]
theorem frz0 : frz [] ρ = ρ := by
  unfold frz
  apply List.ext_getElem?
  intro i
  simp
theorem s_appPop {i j : Nat} {xs ys : List α} {enc : α → D} {t : F Int} {k : List α → List α → F (Fl σ κ r)} {b c : List Nat} {f : Nat} {g : M Z} {m : SM} {ρ' : List α → List α → Env} (hi : ρ[i]? = some (some ⟨eL enc ys, 1⟩)) (hj : ρ[j]? = some (some ⟨eL enc xs, 1⟩)) (h : XR t eI b c f (g ρ p) p)
    (h2 : ∀ xs' : List α, (ρ.set j (some ⟨eL enc xs', 1⟩))[i]? = some (some ⟨eL enc ys, 1⟩)) (hρ : ∀ xs' ys' : List α, (ρ.set j (some ⟨eL enc xs', 1⟩)).set i (some ⟨eL enc ys', 1⟩) = ρ' xs' ys') (q : ∀ xs' ys' p, SR (k xs' ys') I K er fr (m (ρ' xs' ys') p) p) :
    SR (CM.bind t fun a => CM.bind (CM.ret (popT xs a)) fun z => CM.bind (CM.ret (putT ys z.1)) fun zs => k z.2 zs) I K er fr (sSeq (sAppPop i (plVar j) g) m ρ p) p := by
  have pl : ∀ {n : Nat} {zs : List α}, ρ[n]? = some (some ⟨eL enc zs, 1⟩) → plLst (n, []) ρ = true := fun {n zs} e => by
    unfold plLst
    dsimp only
    rw [e]
    rfl
  have e1 : plVar j ρ p = .ok (j, []) p := by
    unfold plVar
    rw [hj]
    rfl
  show SR (F := F) _ I K er fr (oSeq (if plLst (i, []) ρ = true then (plVar j ρ p).thenO fun x p1 => if plLst x ρ = true then (g ρ p1).thenO fun y p2 => (match y.d with
  | .int k => (match popD x (ixPop k) ρ with
    | some r => match mutL lApp (fun ds => decide (ds.length < LIM)) (i, []) ⟨r.1, [], [], 0⟩ r.2 with | some ρ2 => .nx ρ2 p2 | none => .bad
    | none => .bad)
  | _ => .bad) else .bad else .bad) m) p
  rw [if_pos (pl hi), e1]
  show SR (F := F) _ I K er fr (oSeq (if plLst (j, []) ρ = true then (g ρ p).thenO fun y p2 => (match y.d with
  | .int k => (match popD (j, []) (ixPop k) ρ with
    | some r => match mutL lApp (fun ds => decide (ds.length < LIM)) (i, []) ⟨r.1, [], [], 0⟩ r.2 with | some ρ2 => .nx ρ2 p2 | none => .bad
    | none => .bad)
  | _ => .bad) else .bad) m) p
  rw [if_pos (pl hj), thenO_seq]
  refine h.thenS fun a p1 => s_E (fun z hz => ?_) fun _ _ => popT_nx
  obtain ⟨x, xs'⟩ := z
  obtain ⟨k0, k1, ex, rfl⟩ := popT_of hz
  have hl : a.toNat < xs.length := by
    obtain ⟨h, _⟩ := List.getElem?_eq_some_iff.mp ex
    exact h
  refine s_E (fun zs hy => ?_) fun _ _ => by unfold putT; exact if_nx
  unfold putT at hy
  obtain ⟨q', rfl⟩ := ok_if hy
  have ix : ixPop a (xs.map enc).length = some a.toNat := by
    unfold ixPop
    rw [if_pos ⟨by omega, by omega⟩, List.length_map]
    unfold seqIndex?
    simp only [if_neg (show ¬ a < 0 by omega)]
    rw [if_pos (by simp; omega)]
  have em : mutL (lDrop a.toNat) (fun es => es.length == (xs.map enc).length) (j, []) (zS .non) ρ = some (ρ.set j (some ⟨eL enc (xs.eraseIdx a.toNat), 1⟩)) := by
    rw [mut1 (js := []) hj frL_no (by rw [frz0]; exact hj) (by simp), frz0]
    show some (ρ.set j (some ⟨.lst ((xs.map enc).eraseIdx a.toNat), 1⟩)) = some (ρ.set j (some ⟨.lst ((xs.eraseIdx a.toNat).map enc), 1⟩))
    rw [map_erase]
  have ep : popD (j, []) (ixPop a) ρ = some (enc x, ρ.set j (some ⟨eL enc (xs.eraseIdx a.toNat), 1⟩)) := by
    unfold popD
    dsimp only
    rw [hj]
    show (match ixPop a (xs.map enc).length with | some k => _ | none => none) = _
    rw [ix]
    show (match (xs.map enc)[a.toNat]?, mutL (lDrop a.toNat) (fun es => es.length == (xs.map enc).length) (j, []) (zS .non) ρ with | some d, some ρ' => if 1 = 0 + 1 then some (d, ρ') else none | _, _ => none) = _
    rw [em, List.getElem?_map, ex]
    rfl
  show SR (F := F) _ I K er fr (oSeq (match popD (j, []) (ixPop a) ρ with
    | some r => (match mutL lApp (fun ds => decide (ds.length < LIM)) (i, []) ⟨r.1, [], [], 0⟩ r.2 with | some ρ2 => .nx ρ2 p1 | none => .bad)
    | none => .bad) m) p1
  rw [ep]
  dsimp only
  rw [mut1 (js := []) (h2 _) frL_no (by rw [frz0]; exact h2 _) (by rw [List.length_map]; exact q'), frz0]
  have g := q (xs.eraseIdx a.toNat) (ys ++ [x]) p1
  rw [← hρ] at g
  show SR (F := F) _ I K er fr (m ((ρ.set j (some ⟨eL enc (xs.eraseIdx a.toNat), 1⟩)).set i (some ⟨.lst (ys.map enc ++ [enc x]), 1⟩)) p1) p1
  have e3 : eL enc (ys ++ [x]) = .lst (ys.map enc ++ [enc x]) := by
    show D.lst ((ys ++ [x]).map enc) = _
    rw [List.map_append]
    rfl
  rw [e3] at g
  exact g
end
/-! ### names of a row's items -/
section
variable {α : Type} {enc : α → D} {ρ0 : Env} {tm : DL.TM}
@[irreducible] def unq2T {α : Type} : List α → E (α × α)
  | [x, y] => .ok (x, y)
  | _ => .bad
theorem unq2T_nx {a : List α} {c : Nat} {fs : List D} : unq2T a ≠ .exc c fs := by
  unfold unq2T
  split <;> exact fun h => nomatch h
theorem unq2_L {ρ' : α × α → Env} (h : ∀ x y : α, tm (.lst [enc x, enc y]) ρ0 = some (ρ' (x, y))) : ∀ (a : List α) q, unq2T a = .ok q → tm (eL enc a) ρ0 = some (ρ' q) := by
  intro a q e
  unfold unq2T at e
  split at e
  · cases e
    exact h _ _
  · cases e
theorem unq2_T {ρ' : α × α → Env} (h : ∀ x y : α, tm (.tup [enc x, enc y]) ρ0 = some (ρ' (x, y))) : ∀ (a : List α) q, unq2T a = .ok q → tm (eT enc a) ρ0 = some (ρ' q) := by
  intro a q e
  unfold unq2T at e
  split at e
  · cases e
    exact h _ _
  · cases e
@[irreducible] def unq3T {α : Type} : List α → E (α × α × α)
  | [x, y, z] => .ok (x, y, z)
  | _ => .bad
theorem unq3T_nx {a : List α} {c : Nat} {fs : List D} : unq3T a ≠ .exc c fs := by
  unfold unq3T
  split <;> exact fun h => nomatch h
theorem unq3_L {ρ' : α × α × α → Env} (h : ∀ x y z : α, tm (.lst [enc x, enc y, enc z]) ρ0 = some (ρ' (x, y, z))) : ∀ (a : List α) q, unq3T a = .ok q → tm (eL enc a) ρ0 = some (ρ' q) := by
  intro a q e
  unfold unq3T at e
  split at e
  · cases e
    exact h _ _ _
  · cases e
theorem unq3_T {ρ' : α × α × α → Env} (h : ∀ x y z : α, tm (.tup [enc x, enc y, enc z]) ρ0 = some (ρ' (x, y, z))) : ∀ (a : List α) q, unq3T a = .ok q → tm (eT enc a) ρ0 = some (ρ' q) := by
  intro a q e
  unfold unq3T at e
  split at e
  · cases e
    exact h _ _ _
  · cases e
@[irreducible] def unq4T {α : Type} : List α → E (α × α × α × α)
  | [x, y, z, u] => .ok (x, y, z, u)
  | _ => .bad
theorem unq4T_nx {a : List α} {c : Nat} {fs : List D} : unq4T a ≠ .exc c fs := by
  unfold unq4T
  split <;> exact fun h => nomatch h
theorem unq4_L {ρ' : α × α × α × α → Env} (h : ∀ x y z u : α, tm (.lst [enc x, enc y, enc z, enc u]) ρ0 = some (ρ' (x, y, z, u))) : ∀ (a : List α) q, unq4T a = .ok q → tm (eL enc a) ρ0 = some (ρ' q) := by
  intro a q e
  unfold unq4T at e
  split at e
  · cases e
    exact h _ _ _ _
  · cases e
theorem unq4_T {ρ' : α × α × α × α → Env} (h : ∀ x y z u : α, tm (.tup [enc x, enc y, enc z, enc u]) ρ0 = some (ρ' (x, y, z, u))) : ∀ (a : List α) q, unq4T a = .ok q → tm (eT enc a) ρ0 = some (ρ' q) := by
  intro a q e
  unfold unq4T at e
  split at e
  · cases e
    exact h _ _ _ _
  · cases e
end
end
end DL
set_option Elab.async false
set_option linter.all false
set_option maxRecDepth 100000
set_option maxHeartbeats 4000000
/-! # The typed layer, part 12: order of tuples, sorted -/
namespace DL
open PySem PySem.Spec PyProof.Rows L2
open PySem.W (EachIs AllAlike alike alikeAll dataLt dataLe keyToks keyToksAll)
noncomputable section
structure OrdE {α : Type} (e : α → D) (lt : α → α → Bool) : Prop where
  al : ∀ a b, alike (toPy (e a)) (toPy (e b)) = true
  lt : ∀ a b, dataLt (toPy (e a)) (toPy (e b)) = lt a b
section
variable {α β : Type} {e : α → D} {f : β → D} {lt : α → α → Bool} {lu : β → β → Bool} {n m : Nat}
theorem OrdE.irr (o : OrdE e lt) (a : α) : lt a a = false := by rw [← o.lt]; exact lex_irrefl _
theorem OrdE.tr (o : OrdE e lt) {a b c : α} (h : lt a b = true) (g : lt b c = true) : lt a c = true := by
  rw [← o.lt] at h g ⊢
  exact lex_trans _ _ _ h g
theorem OrdE.ntr (o : OrdE e lt) {a b c : α} (h : lt a b = false) (g : lt b c = false) : lt a c = false := by
  cases q : lt a c with
  | false => rfl
  | true =>
    rw [← o.lt] at h g q
    rcases lex_negTrans _ (keyToks (toPy (e b))) _ q with z | z
    · rw [show lexLt itemOrd _ _ = _ from h] at z; cases z
    · rw [show lexLt itemOrd _ _ = _ from g] at z; cases z
theorem OrdE.asym (o : OrdE e lt) {a b : α} (h : lt a b = true) : lt b a = false := by
  cases q : lt b a with
  | false => rfl
  | true => have := o.tr h q; rw [o.irr] at this; cases this
theorem OrdE.anti (o : OrdE e lt) (q : EqE e n) {a b : α} (h : lt a b = false) (g : lt b a = false) : a = b := by
  rw [← o.lt] at h g
  have et : keyToks (toPy (e a)) = keyToks (toPy (e b)) := lex_total (O := itemOrd) _ _ h g
  refine (q.eqv a b).mp ?_
  cases z : PyData.eqv (toPy (e a)) (toPy (e b)) with
  | true => rfl
  | false =>
    have k := (PySem.W.toks_eqv _ _ (o.al a b)).2 z [] [.inl 0]
    rw [et, PySem.W.lex_pre, lex_irrefl] at k
    cases k
theorem ordI : OrdE eI (fun a b => decide (a < b)) := ⟨fun a b => by simp [toPy, alike], fun a b => PySem.W.dataLt_int a b⟩
def lexW (lt : α → α → Bool) (xs : List α) : List α → Bool :=
  List.rec (motive := fun _ => List α → Bool) (fun ys => List.rec (motive := fun _ => Bool) false (fun _ _ _ => true) ys)
    (fun x _ ih ys => List.rec (motive := fun _ => Bool) false (fun y ys' _ => bif lt x y then true else bif lt y x then false else ih ys') ys) xs
theorem toPy_tup (xs : List α) : toPy (eT e xs) = .tuple (toPys (xs.map e)) := by simp [toPy]
theorem ordT_al (o : OrdE e lt) : ∀ xs ys : List α, alikeAll (toPys (xs.map e)) (toPys (ys.map e)) = true
  | [], ys => by simp [toPys, alikeAll]
  | x :: xs, [] => by simp [toPys, alikeAll]
  | x :: xs, y :: ys => by simp [toPys, alikeAll, o.al x y, ordT_al o xs ys]
theorem ordT_lt (q : EqE e n) (o : OrdE e lt) : ∀ xs ys : List α, lexLt itemOrd (keyToksAll (toPys (xs.map e))) (keyToksAll (toPys (ys.map e))) = lexW lt xs ys
  | [], [] => by simp only [List.map_nil, toPys]; rw [lex_irrefl]; rfl
  | [], y :: ys => by
    simp only [List.map_nil, List.map_cons, toPys, keyToksAll]
    rw [lex_diff (O := itemOrd) (by simp)]
    show PyProof.Rows.itemLt (.inl 0) (.inl 1) = true
    decide
  | x :: xs, [] => by
    simp only [List.map_nil, List.map_cons, toPys, keyToksAll]
    rw [lex_diff (O := itemOrd) (by simp)]
    show PyProof.Rows.itemLt (.inl 1) (.inl 0) = false
    decide
  | x :: xs, y :: ys => by
    simp only [List.map_cons, toPys]
    rw [PySem.W.dataLt_cons (o.al x y), o.lt, ordT_lt q o xs ys]
    show _ = bif lt x y then true else bif lt y x then false else lexW lt xs ys
    by_cases z : PyData.eqv (toPy (e x)) (toPy (e y)) = true
    · rw [if_pos z]
      have := (q.eqv x y).mp z
      subst this
      rw [o.irr] <;> rfl
    · rw [if_neg z]
      cases h1 : lt x y with
      | true => rfl
      | false =>
        cases h2 : lt y x with
        | true => rfl
        | false => exact absurd ((q.eqv x y).mpr (o.anti q h1 h2)) z
theorem ordT (q : EqE e n) (o : OrdE e lt) : OrdE (eT e) (lexW lt) := ⟨fun xs ys => by rw [toPy_tup, toPy_tup]; simp only [alike]; exact ordT_al o xs ys, fun xs ys => by
  rw [toPy_tup, toPy_tup, PySem.W.dataLt_tuple]; exact ordT_lt q o xs ys⟩
def lexP (lt : α → α → Bool) (lu : β → β → Bool) (p q : α × β) : Bool := bif lt p.1 q.1 then true else bif lt q.1 p.1 then false else lu p.2 q.2
theorem ordP2 (q : EqE e n) (r : EqE f m) (o : OrdE e lt) (u : OrdE f lu) : OrdE (eP2 e f) (lexP lt lu) := ⟨fun x y => by
    show alike (toPy (.tup [e x.1, f x.2])) (toPy (.tup [e y.1, f y.2])) = true
    simp [toPy, toPys, alike, alikeAll, o.al, u.al], fun x y => by
    show dataLt (toPy (.tup [e x.1, f x.2])) (toPy (.tup [e y.1, f y.2])) = _
    simp only [toPy, toPys]
    rw [PySem.W.dataLt_pair (o.al _ _) (u.al _ _), o.lt, u.lt]
    unfold lexP
    by_cases z : PyData.eqv (toPy (e x.1)) (toPy (e y.1)) = true
    · rw [if_pos z]
      rw [(q.eqv _ _).mp z, o.irr]
      by_cases z2 : PyData.eqv (toPy (f x.2)) (toPy (f y.2)) = true
      · rw [if_pos z2, (r.eqv _ _).mp z2, u.irr] <;> rfl
      · rw [if_neg z2] <;> rfl
    · rw [if_neg z]
      cases h1 : lt x.1 y.1 with
      | true => rfl
      | false =>
        cases h2 : lt y.1 x.1 with
        | true => rfl
        | false => exact absurd ((q.eqv _ _).mpr (o.anti q h1 h2)) z⟩
/-! ### merging -/
def mergeW (lt : α → α → Bool) (xs : List α) : List α → List α :=
  List.rec (motive := fun _ => List α → List α) (fun ys => ys)
    (fun x xs ihx ys => List.rec (motive := fun _ => List α) (x :: xs) (fun y ys' ihy => bif lt y x then y :: ihy else x :: ihx (y :: ys')) ys) xs
theorem mergeW_perm : ∀ xs ys : List α, (mergeW lt xs ys).Perm (xs ++ ys)
  | [], ys => .refl _
  | x :: xs, [] => by rw [List.append_nil]; exact .refl _
  | x :: xs, y :: ys => by
    show (bif lt y x then y :: mergeW lt (x :: xs) ys else x :: mergeW lt xs (y :: ys)).Perm _
    cases lt y x with
    | true => exact ((mergeW_perm (x :: xs) ys).cons y).trans (List.perm_middle (l₁ := x :: xs)).symm
    | false => exact (mergeW_perm xs (y :: ys)).cons x
theorem mergeW_pw (o : OrdE e lt) : ∀ xs ys : List α, xs.Pairwise (fun a b => lt b a = false) → ys.Pairwise (fun a b => lt b a = false) → (mergeW lt xs ys).Pairwise (fun a b => lt b a = false)
  | [], ys, _, h => h
  | x :: xs, [], h, _ => h
  | x :: xs, y :: ys, h, g => by
    show (bif lt y x then y :: mergeW lt (x :: xs) ys else x :: mergeW lt xs (y :: ys)).Pairwise _
    have h' := List.pairwise_cons.mp h
    have g' := List.pairwise_cons.mp g
    cases q : lt y x with
    | true =>
      refine List.pairwise_cons.mpr ⟨fun z hz => ?_, mergeW_pw o (x :: xs) ys h g'.2⟩
      rcases List.mem_append.mp ((mergeW_perm _ _).mem_iff.mp hz) with z1 | z1
      · rcases List.mem_cons.mp z1 with z2 | z2
        · rw [z2]; exact o.asym q
        · exact o.ntr (h'.1 z z2) (o.asym q)
      · exact g'.1 z z1
    | false =>
      refine List.pairwise_cons.mpr ⟨fun z hz => ?_, mergeW_pw o xs (y :: ys) h'.2 g⟩
      rcases List.mem_append.mp ((mergeW_perm _ _).mem_iff.mp hz) with z1 | z1
      · exact h'.1 z z1
      · rcases List.mem_cons.mp z1 with z2 | z2
        · rw [z2]; exact q
        · exact o.ntr (g'.1 z z2) q
def pairW (lt : α → α → Bool) (ls : List (List α)) : List (List α) :=
  List.rec (motive := fun _ => Option (List α) → List (List α)) (fun o => Option.rec (motive := fun _ => List (List α)) [] (fun a => [a]) o)
    (fun b _ ih o => Option.rec (motive := fun _ => List (List α)) (ih (some b)) (fun a => mergeW lt a b :: ih none) o) ls none
def pairG (lt : α → α → Bool) : List (List α) → Option (List α) → List (List α)
  | [], none => []
  | [], some a => [a]
  | b :: ls, none => pairG lt ls (some b)
  | b :: ls, some a => mergeW lt a b :: pairG lt ls none
theorem pairW_eq : ∀ (ls : List (List α)) (o : Option (List α)), List.rec (motive := fun _ => Option (List α) → List (List α)) (fun o => Option.rec (motive := fun _ => List (List α)) [] (fun a => [a]) o)
    (fun b _ ih o => Option.rec (motive := fun _ => List (List α)) (ih (some b)) (fun a => mergeW lt a b :: ih none) o) ls o = pairG lt ls o
  | [], none => rfl
  | [], some a => rfl
  | b :: ls, none => pairW_eq ls (some b)
  | b :: ls, some a => congrArg (mergeW lt a b :: ·) (pairW_eq ls none)
theorem pairG_perm : ∀ (ls : List (List α)) (o : Option (List α)), (pairG lt ls o).flatten.Perm (o.getD [] ++ ls.flatten)
  | [], none => .refl _
  | [], some a => by simp [pairG]
  | b :: ls, none => by
    refine (pairG_perm ls (some b)).trans ?_
    simp
  | b :: ls, some a => by
    show (mergeW lt a b ++ (pairG lt ls none).flatten).Perm _
    refine ((mergeW_perm a b).append (pairG_perm ls none)).trans ?_
    simp
theorem pairG_pw (o : OrdE e lt) : ∀ (ls : List (List α)) (u : Option (List α)), (∀ l ∈ ls, l.Pairwise (fun a b => lt b a = false)) → (∀ l, u = some l → l.Pairwise (fun a b => lt b a = false)) → ∀ l ∈ pairG lt ls u, l.Pairwise (fun a b => lt b a = false)
  | [], none, h, g, l, m => nomatch m
  | [], some a, h, g, l, m => by rw [List.mem_singleton.mp m]; exact g a rfl
  | b :: ls, none, h, g, l, m => pairG_pw o ls (some b) (fun l hl => h l (List.mem_cons_of_mem _ hl)) (fun l e => by cases e; exact h b List.mem_cons_self) l m
  | b :: ls, some a, h, g, l, m => by
    rcases List.mem_cons.mp m with z | z
    · rw [z]; exact mergeW_pw o a b (g a rfl) (h b List.mem_cons_self)
    · exact pairG_pw o ls none (fun l hl => h l (List.mem_cons_of_mem _ hl)) (fun l e => by cases e) l z
def iterW (lt : α → α → Bool) (k : Nat) (ls : List (List α)) : List (List α) := Nat.rec (motive := fun _ => List (List α) → List (List α)) (fun ls => ls) (fun _ ih ls => ih (pairW lt ls)) k ls
def sortW (lt : α → α → Bool) (xs : List α) : List α := (iterW lt 12 (xs.map fun x => [x])).foldr (mergeW lt) []
theorem iterW_ok (o : OrdE e lt) : ∀ (k : Nat) (ls : List (List α)), (∀ l ∈ ls, l.Pairwise (fun a b => lt b a = false)) → (iterW lt k ls).flatten.Perm ls.flatten ∧ ∀ l ∈ iterW lt k ls, l.Pairwise (fun a b => lt b a = false)
  | 0, ls, h => ⟨.refl _, h⟩
  | k + 1, ls, h => by
    have e1 : pairW lt ls = pairG lt ls none := pairW_eq ls none
    have i := iterW_ok o k (pairW lt ls) (by rw [e1]; exact pairG_pw o ls none h fun l e => nomatch e)
    refine ⟨i.1.trans ?_, i.2⟩
    rw [e1]
    exact (pairG_perm ls none).trans (by simp)
theorem foldW_ok (o : OrdE e lt) : ∀ (ls : List (List α)), (∀ l ∈ ls, l.Pairwise (fun a b => lt b a = false)) → (ls.foldr (mergeW lt) []).Perm ls.flatten ∧ (ls.foldr (mergeW lt) []).Pairwise (fun a b => lt b a = false)
  | [], h => ⟨.refl _, .nil⟩
  | l :: ls, h => by
    have i := foldW_ok o ls fun l hl => h l (List.mem_cons_of_mem _ hl)
    exact ⟨(mergeW_perm _ _).trans ((List.Perm.refl l).append i.1), mergeW_pw o _ _ (h l List.mem_cons_self) i.2⟩
theorem flat_one : ∀ xs : List α, (xs.map fun x => [x]).flatten = xs
  | [] => rfl
  | x :: xs => by rw [List.map_cons, List.flatten_cons, flat_one xs] <;> rfl
theorem sortW_perm (o : OrdE e lt) (xs : List α) : (sortW lt xs).Perm xs := by
  have h : ∀ l ∈ xs.map (fun x => [x]), l.Pairwise (fun a b => lt b a = false) := fun l hl => by
    obtain ⟨x, _, rfl⟩ := List.mem_map.mp hl
    exact List.pairwise_singleton _ _
  have i := iterW_ok o 12 _ h
  have j := foldW_ok o _ i.2
  rw [flat_one] at i
  exact j.1.trans i.1
theorem sortW_pw (o : OrdE e lt) (xs : List α) : (sortW lt xs).Pairwise (fun a b => lt b a = false) := by
  have h : ∀ l ∈ xs.map (fun x => [x]), l.Pairwise (fun a b => lt b a = false) := fun l hl => by
    obtain ⟨x, _, rfl⟩ := List.mem_map.mp hl
    exact List.pairwise_singleton _ _
  exact (foldW_ok o _ (iterW_ok o 12 _ h).2).2
theorem sortW_uniq (o : OrdE e lt) (q : EqE e n) {xs ys : List α} (p : ys.Perm xs) (h : ys.Pairwise (fun a b => lt b a = false)) : ys = sortW lt xs :=
  List.Perm.eq_of_pairwise (le := fun a b => lt b a = false) (fun a b _ _ h g => o.anti q g h) h (sortW_pw o xs) (p.trans (sortW_perm o xs).symm)
theorem sort_merge (o : OrdE e lt) (q : EqE e n) (xs : List α) : (xs.map e).mergeSort leD = (sortW lt xs).map e := by
  have le : ∀ a b : α, leD (e a) (e b) = !lt b a := fun a b => by unfold leD; rw [o.lt]
  have em : xs.mergeSort (fun a b => !lt b a) = sortW lt xs := by
    refine sortW_uniq o q (List.mergeSort_perm _ _) ((List.pairwise_mergeSort (le := fun a b => !lt b a) (fun a b c h g => ?_) (fun a b => ?_) xs).imp fun {a b} h => by simpa using h)
    · simp only [Bool.not_eq_true'] at h g ⊢
      exact o.ntr g h
    · cases z : lt b a with
      | false => rfl
      | true => simp [o.asym z]
  rw [← em]
  exact (List.map_mergeSort fun a _ b _ => (le a b).symm).symm
/-- sorted -/
def sortWT (lt : α → α → Bool) (ne : α → Bool) (xs : List α) : E (List α) := bif decide (xs.length < 2) || xs.all ne then .ok (sortW lt xs) else .bad
theorem sortOk_of (o : OrdE e lt) (q : EqE e n) (hn : n ≤ 60) {ne : α → Bool} (hne : ∀ a, ne a = true → neTup (e a) = true) {xs : List α} (h : (decide (xs.length < 2) || xs.all ne) = true) : sortOk (xs.map e) = true := by
  have d1 : ∀ l : List α, dOks (l.map e) 60 = true := by
    have up : ∀ (d : D) (i j : Nat), i ≤ j → dOk d i = true → dOk d j = true := fun d i j h k => dOk_mono d h k
    intro l
    induction l with
    | nil => simp [dOks]
    | cons a l ih => simp only [List.map_cons, dOks, Bool.and_eq_true]; exact ⟨up _ _ _ hn (q.ok a), ih⟩
  unfold sortOk
  rw [d1, Bool.true_and, Bool.and_eq_true]
  refine ⟨?_, ?_⟩
  · rw [List.all_eq_true]
    intro x hx
    rw [List.all_eq_true]
    intro y hy
    obtain ⟨a, _, rfl⟩ := List.mem_map.mp hx
    obtain ⟨b, _, rfl⟩ := List.mem_map.mp hy
    exact o.al a b
  · rw [Bool.or_eq_true] at h
    rw [Bool.or_eq_true, Bool.or_eq_true, List.length_map]
    rcases h with h | h
    · exact .inl (.inl h)
    · refine .inl (.inr ?_)
      rw [List.all_eq_true] at h ⊢
      intro x hx
      obtain ⟨a, ha, rfl⟩ := List.mem_map.mp hx
      exact hne a (h a ha)
theorem intsOf_no (hi : ∀ a i, e a ≠ .int i) : ∀ {xs : List α}, xs ≠ [] → intsOf (xs.map e) = none
  | [], h => absurd rfl h
  | x :: xs, _ => by
    rw [List.map_cons]
    cases z : e x <;> first | exact absurd z (hi x _) | rfl
theorem o_sortW (o : OrdE e lt) (q : EqE e n) (hn : n ≤ 60) {ne : α → Bool} (hne : ∀ a, ne a = true → neTup (e a) = true) (hi : ∀ a i, e a ≠ .int i) (hl : LF e) {b1 c1 : List Nat} {f1 : Nat} {xs ys : List α} (h : sortWT lt ne xs = .ok ys) : biSorted2 [⟨eL e xs, b1, c1, f1⟩] = some ⟨eL e ys, [], [], 1⟩ := by
  unfold sortWT at h
  cases g : (decide (xs.length < 2) || xs.all ne) with
  | false => rw [g] at h; cases h
  | true =>
    rw [g] at h
    have h : E.ok (sortW lt xs) = E.ok ys := h
    have h := E.ok.inj h
    subst h
    by_cases z : xs = []
    · subst z; rfl
    · show (match intsOf (xs.map e) with | some ns => some (Z.mk (.lst ((sortI ns).map .int)) [] [] 1) | none => if sortOk (xs.map e) then some (Z.mk (.lst ((xs.map e).mergeSort leD)) [] (if lfs (xs.map e) then [] else c1) 1) else none) = _
      rw [intsOf_no hi z]
      dsimp only
      rw [if_pos (sortOk_of o q hn hne g), sort_merge o q, if_pos (LF.map (h := hl) xs)]
theorem o_sorted2 {x : List Int} {b1 c1 : List Nat} {f1 : Nat} : biSorted2 [⟨eL eI x, b1, c1, f1⟩] = some ⟨eL eI (sortI x), [], [], 1⟩ := by
  show (match intsOf (x.map D.int) with | some ns => some (Z.mk (.lst ((sortI ns).map .int)) [] [] 1) | none => _) = _
  rw [intsOf_map]
/-! ### enumerate -/
theorem en_of2 {xs : List α} {b c : List Nat} {n : Nat} : opEnum2 [⟨eL e xs, b, c, n⟩] = some ((enumT 0 xs).map (eP2 eI e), b ++ c) := by
  show some (enumD 0 (xs.map e), _) = _
  rw [enumT_map]
  rfl
theorem en_ofT {xs : List α} {b c : List Nat} {n : Nat} : opEnum2 [⟨eT e xs, b, c, n⟩] = some ((enumT 0 xs).map (eP2 eI e), b ++ c) := by
  show some (enumD 0 (xs.map e), _) = _
  rw [enumT_map]
  rfl
theorem sortWT_nx {ne : α → Bool} {xs : List α} {c : Nat} {fs : List D} : sortWT lt ne xs ≠ .exc c fs := by
  unfold sortWT
  cases (decide (xs.length < 2) || xs.all ne) <;> exact fun h => nomatch h
theorem neT {a : List α} (h : (!a.isEmpty) = true) : neTup (eT e a) = true := by
  cases a with
  | nil => cases h
  | cons _ _ => rfl

end
end
end DL
set_option Elab.async false
set_option linter.all false
set_option maxRecDepth 100000
set_option maxHeartbeats 4000000
/-! # The typed layer, part 13: repr(a) == repr(b) without the texts; ends within expressions -/
namespace DL
open PySem PySem.Spec PyProof.Rows L2
noncomputable section
theorem ev_as {f : M Z} {ρ : Env} {p : Option Pen} {d d' : D} {b c : List Nat} {n : Nat} (h : f ρ p = .ok ⟨d, b, c, n⟩ p) (e : d = d') : f ρ p = .ok ⟨d', b, c, n⟩ p := e ▸ h
/-- repr(a) == repr(b), just where both are the same tree -/
def eRpr2 (v : Bool) (f g : M Z) : M Z := fun ρ p => (f ρ p).bind fun x p1 => bif repOk x.d then (g ρ p1).bind fun y p2 => bif beqD x.d y.d then .ok (zS (.bl v)) p2 else .bad else .bad
theorem rpr2_le {op : Z → Z → Option Z} {v : Bool} (ho : ∀ s : Str, PyData.strOk s = true → op (zS (.str s)) (zS (.str s)) = some (zS (.bl v))) {f g : M Z} (ρ : Env) (p : Option Pen) : eRpr2 v f g ρ p = .bad ∨ eOp op (eCB biRepr (aCons f aNil)) (eCB biRepr (aCons g aNil)) ρ p = eRpr2 v f g ρ p := by
  have eL : eOp op (eCB biRepr (aCons f aNil)) (eCB biRepr (aCons g aNil)) ρ p = (f ρ p).bind fun x p1 => (match biRepr [x] with | some z => R.ok z p1 | none => R.bad).bind fun x p1 => (eCB biRepr (aCons g aNil) ρ p1).bind fun y p2 => match op x y with | some z => R.ok z p2 | none => R.bad := by
    show (eCB biRepr (aCons f aNil) ρ p).bind _ = _
    rw [cb_one, R.bind_assoc] <;> rfl
  rw [eL]
  unfold eRpr2
  cases e1 : f ρ p with
  | bad => exact .inl rfl
  | exc c fs p1 => exact .inr rfl
  | ok x p1 =>
    obtain ⟨d, b, c', n⟩ := x
    show ((bif repOk d then (g ρ p1).bind _ else .bad) = R.bad) ∨ _ = (bif repOk d then (g ρ p1).bind _ else .bad)
    cases k : repOk d with
    | false => exact .inl rfl
    | true =>
      have e3 : ((R.ok (Z.mk d b c' n) p1).bind fun x p1 => (match biRepr [x] with | some z => R.ok z p1 | none => R.bad).bind fun x p1 => (eCB biRepr (aCons g aNil) ρ p1).bind fun y p2 => match op x y with | some z => R.ok z p2 | none => R.bad) = (g ρ p1).bind fun y p2 => (match biRepr [y] with | some z => R.ok z p2 | none => R.bad).bind fun y p2 => match op (zS (.str (toPy d).shown)) y with | some z => R.ok z p2 | none => R.bad := by
        show (match biRepr [Z.mk d b c' n] with | some z => R.ok z p1 | none => R.bad).bind _ = _
        rw [(repr_ok (b := b) (c := c') (f := n) k).1]
        show (eCB biRepr (aCons g aNil) ρ p1).bind _ = _
        rw [cb_one, R.bind_assoc] <;> rfl
      rw [e3]
      show ((g ρ p1).bind (fun y p2 => bif beqD d y.d then .ok (zS (.bl v)) p2 else .bad) = R.bad) ∨ _ = (g ρ p1).bind fun y p2 => bif beqD d y.d then .ok (zS (.bl v)) p2 else .bad
      cases e2 : g ρ p1 with
      | bad => exact .inl rfl
      | exc c fs p2 => exact .inr rfl
      | ok y p2 =>
        obtain ⟨d2, b2, c2, n2⟩ := y
        show ((bif beqD d d2 then R.ok (zS (.bl v)) p2 else .bad) = R.bad) ∨ ((match biRepr [Z.mk d2 b2 c2 n2] with | some z => R.ok z p2 | none => R.bad).bind _) = (bif beqD d d2 then R.ok (zS (.bl v)) p2 else .bad)
        cases k2 : beqD d d2 with
        | false => exact .inl rfl
        | true =>
          have e4 : d = d2 := beqD_ok d d2 k2
          subst e4
          rw [(repr_ok (b := b2) (c := c2) (f := n2) k).1]
          refine .inr ?_
          show (match op (zS (.str _)) (zS (.str _)) with | some z => R.ok z p2 | none => R.bad) = _
          rw [ho _ (repr_ok (b := b2) (c := c2) (f := n2) k).2]
          rfl
section
variable {X : Cx} {T : Tx} {Wx : WX} {e : Expr} {f g : M Z}
theorem de_rprE (h : DE X T Wx e (eOp opEq (eCB biRepr (aCons f aNil)) (eCB biRepr (aCons g aNil)))) : DE X T Wx e (eRpr2 true f g) := DE.fine h (rpr2_le str_eq)
theorem de_rprN (h : DE X T Wx e (eOp opNe (eCB biRepr (aCons f aNil)) (eCB biRepr (aCons g aNil)))) : DE X T Wx e (eRpr2 false f g) := DE.fine h (rpr2_le str_ne)
theorem dt_rprE (h : DT X T Wx e (eOp opEq (eCB biRepr (aCons f aNil)) (eCB biRepr (aCons g aNil)))) : DT X T Wx e (eRpr2 true f g) := DT.fine h (rpr2_le str_eq)
theorem dt_rprN (h : DT X T Wx e (eOp opNe (eCB biRepr (aCons f aNil)) (eCB biRepr (aCons g aNil)))) : DT X T Wx e (eRpr2 false f g) := DT.fine h (rpr2_le str_ne)
end
mutual
theorem beqD_refl : ∀ (d : D) (n : Nat), dOk d n = true → beqD d d = true
  | .non, _, _ => rfl
  | .bl b, _, _ => by simp [beqD]
  | .int i, _, _ => by simp [beqD]
  | .str x, _, _ => by simp [beqD]
  | .tup xs, 0, h => by simp [dOk] at h
  | .tup xs, n + 1, h => beqDs_refl xs n (by simpa [dOk] using h)
  | .lst xs, 0, h => by simp [dOk] at h
  | .lst xs, n + 1, h => beqDs_refl xs n (by simpa [dOk] using h)
  | .dic a b, _, h => by simp [dOk] at h
  | .obj c xs, _, h => by simp [dOk] at h
  | .fn n, _, h => by simp [dOk] at h
  | .ty n, _, h => by simp [dOk] at h
  | .clo n, _, h => by simp [dOk] at h
  | .pen, _, h => by simp [dOk] at h
theorem beqDs_refl : ∀ (ds : List D) (n : Nat), dOks ds n = true → beqDs ds ds = true
  | [], _, _ => rfl
  | d :: ds, n, h => by
    have h : dOk d n = true ∧ dOks ds n = true := by simpa [dOks] using h
    simp [beqDs, beqD_refl d n h.1, beqDs_refl ds n h.2]
end
theorem repOk_d {d : D} (h : repOk d = true) : dOk d 60 = true := by
  unfold repOk at h
  simp only [Bool.and_eq_true] at h
  exact h.1.1.1
section
variable {F : Type → Type} [CM F] {α : Type} {ρ : Env} {p : Option Pen} {f g : M Z} {e1 : α → D} {b1 c1 b2 c2 : List Nat} {f1 f2 : Nat}
theorem x_rpr2 {x : Bool} [DecidableEq α] {t1 t2 : F α} (h1 : XR t1 e1 b1 c1 f1 (f ρ p) p) (h2 : ∀ p, XR t2 e1 b2 c2 f2 (g ρ p) p) :
    XR (CM.bind t1 fun a => CM.bind (CM.ret (rprT (e1 a))) fun _ => CM.bind t2 fun b => CM.ret (sameT a b x)) eB [] [] 0 (eRpr2 x f g ρ p) p := by
  refine h1.bind fun a p1 => x_E (fun u q => ?_) fun _ _ => by unfold rprT; exact if_nx
  unfold rprT at q
  obtain ⟨q, _⟩ := ok_if q
  show XR _ eB [] [] 0 (bif repOk (e1 a) then (g ρ p1).bind _ else .bad) p1
  rw [q]
  refine (h2 p1).bind fun b p2 => x_Er (fun y z => ?_) fun _ _ => by unfold sameT; exact if_nx
  unfold sameT at z
  obtain ⟨z', rfl⟩ := ok_if z
  have z' : a = b := of_decide_eq_true z'
  subst z'
  show (bif beqD (e1 a) (e1 a) then R.ok (zS (.bl x)) p2 else .bad) = _
  rw [beqD_refl _ _ (repOk_d q)]
  rfl
/-- an end within an expression: looked at value by value -/
theorem x_tail {c v : Bool} {o : R Z} (h : c = true → o = .ok ⟨.bl v, [], [], 0⟩ p) : XR (F := F) (CM.ret (bif c then E.ok v else .bad)) eB [] [] 0 o p := by
  cases c with
  | false =>
    unfold XR
    rw [CM.run_ret]
    trivial
  | true =>
    unfold XR
    rw [CM.run_ret]
    exact h rfl
end
end
end DL
set_option Elab.async false
set_option linter.all false
set_option maxRecDepth 100000
set_option maxHeartbeats 4000000
/-! # The typed layer, part 14: stores at places two deep -/
namespace DL
open PySem PySem.Spec PyProof.Rows L2
noncomputable section
section
variable {F : Type → Type} [CM F] {α β σ τ κ r : Type} {ρ : Env} {p : Option Pen} {I : σ → Env → Prop} {K : κ → Env → Prop} {er : r → D} {fr : Nat}
theorem mut2 {op : LOp} {chk : List D → Bool} {i n : Nat} {ds es : List D} {z : Z} (h : ρ[i]? = some (some ⟨.lst ds, 2⟩)) (h1 : ds[n]? = some (.lst es)) (hj : z.frL 0 = []) (hc : chk es = true) :
    mutL op chk (i, [n]) z ρ = some (ρ.set i (some ⟨.lst (ds.set n (.lst (op.f z.d es))), 2⟩)) := by
  have t1 : treeAt [n] (.lst ds) = some (.lst es) := by
    show (ds[n]?).bind (treeAt []) = _
    rw [h1]
    rfl
  have t2 : ∀ c, setTree [n] (.lst ds) c = .lst (ds.set n c) := fun c => by
    show D.lst (match ds[n]? with | some d => ds.set n (setTree [] d c) | none => ds) = _
    rw [h1]
    rfl
  unfold mutL
  dsimp only
  rw [h]
  show (match (frz (z.frL 0) ρ)[i]? with | some (some c) => _ | _ => none) = _
  rw [hj]
  show (match ρ[i]? with | some (some c) => _ | _ => none) = _
  rw [h]
  dsimp only
  rw [t1]
  show (if 1 < 2 ∧ 2 = 2 ∧ z.okL 0 = true ∧ chk es = true then some ((frz (z.frL 0) ρ).set i (some ⟨setTree [n] (.lst ds) (.lst (op.f z.d es)), 2⟩)) else none) = _
  rw [if_pos ⟨by decide, rfl, rfl, hc⟩, hj, t2]
  rfl
theorem idx_at {xs : List α} {j : Int} {a : α} (h : idxT xs j = .ok a) : ∃ n, ixN xs.length j = some n ∧ xs[n]? = some a := by
  rw [idxT_eq] at h
  have h := ofO_ok h
  unfold atI at h
  cases q : ixN xs.length j with
  | none => rw [q] at h; cases h
  | some n => rw [q] at h; exact ⟨n, rfl, h⟩
theorem pl_two {i n : Nat} {xs : List (List α)} {e : α → D} {row : List α} {j : Int} {b c : List Nat} {f : Nat} (hx : ρ[i]? = some (some ⟨eL (eL e) xs, 2⟩)) (hn : ixN xs.length j = some n) (hr : xs[n]? = some row) : plGo (i, []) ⟨.int j, b, c, f⟩ ρ = some (i, [n]) := by
  unfold plGo
  dsimp only
  rw [hx]
  show (match ixN (xs.map (eL e)).length j with | some j => if j < (xs.map (eL e)).length ∧ 0 < 2 then some (i, [] ++ [j]) else none | none => none) = _
  rw [List.length_map, hn]
  dsimp only
  obtain ⟨l, _⟩ := List.getElem?_eq_some_iff.mp hr
  rw [if_pos ⟨l, by decide⟩]
  rfl
/-- xs[j][k] = v -/
theorem s_set2 {i : Nat} {xs : List (List α)} {enc : α → D} {t : F α} {t1 t2 : F Int} {k : List (List α) → F (Fl σ κ r)} {b c b1 c1 b2 c2 : List Nat} {f f1 f2 : Nat} {e e1 e2 : M Z} {m : SM} {ρ' : List (List α) → Env} (h : XR t enc b c f (e ρ p) p) (hk : ∀ p, XR t1 eI b1 c1 f1 (e1 ρ p) p) (hl : ∀ p, XR t2 eI b2 c2 f2 (e2 ρ p) p) (hx : ρ[i]? = some (some ⟨eL (eL enc) xs, 2⟩)) (hj : ∀ a, Z.frL 0 ⟨enc a, b, c, f⟩ = []) (hρ : ∀ ys, ρ.set i (some ⟨eL (eL enc) ys, 2⟩) = ρ' ys) (g : ∀ ys p, SR (k ys) I K er fr (m (ρ' ys) p) p) :
    SR (CM.bind t fun a => CM.bind t1 fun j => CM.bind (CM.ret (idxT xs j)) fun row => CM.bind t2 fun l => CM.bind (CM.ret (setT row l a)) fun row' => CM.bind (CM.ret (setT xs j row')) k) I K er fr (sSeq (sStI e (plIdx (plVar i) e1) e2) m ρ p) p := by
  have ev : ∀ p, plVar i ρ p = .ok (i, []) p := fun p => by
    unfold plVar
    rw [hx]
    rfl
  show SR (F := F) _ I K er fr (oSeq ((e ρ p).thenO fun z p1 => (plIdx (plVar i) e1 ρ p1).thenO fun x p2 => (e2 ρ p2).thenO fun y p3 => _) m) p
  rw [thenO_seq]
  refine h.thenS fun a p1 => ?_
  have ep : plIdx (plVar i) e1 ρ p1 = (e1 ρ p1).bind fun y p2 => match plGo (i, []) y ρ with | some x' => .ok x' p2 | none => .bad := by
    unfold plIdx
    rw [ev]
    rfl
  rw [ep, thenO_seq]
  have bindS : ∀ {k2 : Int → F (Fl σ κ r)} {G : (Nat × List Nat) → Option Pen → O}, (∀ j p2, SR (k2 j) I K er fr ((match plGo (i, []) ⟨.int j, b1, c1, f1⟩ ρ with | some x' => (R.ok x' p2 : R (Nat × List Nat)) | none => .bad).thenO G) p2) → SR (CM.bind t1 k2) I K er fr (((e1 ρ p1).bind fun y p2 => match plGo (i, []) y ρ with | some x' => .ok x' p2 | none => .bad).thenO G) p1 := fun {k2 G} q => by
    have : (((e1 ρ p1).bind fun y p2 => match plGo (i, []) y ρ with | some x' => (R.ok x' p2 : R (Nat × List Nat)) | none => .bad).thenO G) = (e1 ρ p1).thenO fun y p2 => (match plGo (i, []) y ρ with | some x' => (R.ok x' p2 : R (Nat × List Nat)) | none => .bad).thenO G := by
      cases e1 ρ p1 <;> rfl
    rw [this]
    exact (hk p1).thenS fun j p2 => q j p2
  refine bindS fun j p2 => s_E (fun row hrow => ?_) fun _ _ => idxT_nx
  obtain ⟨n, hn, hr⟩ := idx_at hrow
  rw [pl_two hx hn hr]
  show SR (F := F) _ I K er fr (oSeq ((e2 ρ p2).thenO fun y p3 => _) m) p2
  rw [thenO_seq]
  refine (hl p2).thenS fun l p3 => s_E (fun row' hrow' => ?_) fun _ _ => setT_nx
  refine s_E (fun ys hys => ?_) fun _ _ => setT_nx
  obtain ⟨n2, q2, rfl⟩ := setT_ok hrow'
  obtain ⟨n', q3, rfl⟩ := setT_ok hys
  rw [hn] at q3
  cases q3
  have hd : (xs.map (eL enc))[n]? = some (.lst (row.map enc)) := by
    rw [List.getElem?_map, hr]
    rfl
  have ht : treeAt [n] (eL (eL enc) xs) = some (.lst (row.map enc)) := by
    show ((xs.map (eL enc))[n]?).bind (treeAt []) = _
    rw [hd]
    rfl
  dsimp only
  rw [hx]
  dsimp only
  rw [ht]
  dsimp only
  rw [List.length_map, q2]
  dsimp only
  rw [mut2 hx hd (hj a) (by simp)]
  have g := g (xs.set n (row.set n2 a)) p3
  rw [← hρ, eL, List.map_set] at g
  have eq2 : eL enc (row.set n2 a) = .lst ((lSet n2).f (enc a) (row.map enc)) := by
    show D.lst ((row.set n2 a).map enc) = D.lst ((row.map enc).set n2 (enc a))
    rw [List.map_set]
  rw [eq2] at g
  exact g
/-- xs[j][k] += v, ints -/
theorem s_augI2 {i : Nat} {xs : List (List Int)} {w : Int → Int → Int} {t t1 t2 : F Int} {k : List (List Int) → F (Fl σ κ r)} {b c b1 c1 b2 c2 : List Nat} {f f1 f2 : Nat} {e e1 e2 : M Z} {m : SM} {ρ' : List (List Int) → Env} (hk : XR t1 eI b1 c1 f1 (e1 ρ p) p) (hl : ∀ p, XR t2 eI b2 c2 f2 (e2 ρ p) p) (h : ∀ p, XR t eI b c f (e ρ p) p) (hx : ρ[i]? = some (some ⟨eL (eL eI) xs, 2⟩)) (hρ : ∀ ys, ρ.set i (some ⟨eL (eL eI) ys, 2⟩) = ρ' ys) (g : ∀ ys p, SR (k ys) I K er fr (m (ρ' ys) p) p) :
    SR (CM.bind t1 fun j => CM.bind (CM.ret (idxT xs j)) fun row => CM.bind t2 fun l => CM.bind (CM.ret (idxT row l)) fun a => CM.bind t fun v => CM.bind (CM.ret (setT row l (w a v))) fun row' => CM.bind (CM.ret (setT xs j row')) k) I K er fr (sSeq (sAugI (plIdx (plVar i) e1) e2 w e) m ρ p) p := by
  have ev : plVar i ρ p = .ok (i, []) p := by
    unfold plVar
    rw [hx]
    rfl
  show SR (F := F) _ I K er fr (oSeq ((plIdx (plVar i) e1 ρ p).thenO fun x p1 => (e2 ρ p1).thenO fun y p2 => _) m) p
  have ep : plIdx (plVar i) e1 ρ p = (e1 ρ p).bind fun y p2 => match plGo (i, []) y ρ with | some x' => .ok x' p2 | none => .bad := by
    unfold plIdx
    rw [ev]
    rfl
  rw [ep, thenO_seq]
  have bindS : ∀ {k2 : Int → F (Fl σ κ r)} {G : (Nat × List Nat) → Option Pen → O}, (∀ j p2, SR (k2 j) I K er fr ((match plGo (i, []) ⟨.int j, b1, c1, f1⟩ ρ with | some x' => (R.ok x' p2 : R (Nat × List Nat)) | none => .bad).thenO G) p2) → SR (CM.bind t1 k2) I K er fr (((e1 ρ p).bind fun y p2 => match plGo (i, []) y ρ with | some x' => .ok x' p2 | none => .bad).thenO G) p := fun {k2 G} q => by
    have : (((e1 ρ p).bind fun y p2 => match plGo (i, []) y ρ with | some x' => (R.ok x' p2 : R (Nat × List Nat)) | none => .bad).thenO G) = (e1 ρ p).thenO fun y p2 => (match plGo (i, []) y ρ with | some x' => (R.ok x' p2 : R (Nat × List Nat)) | none => .bad).thenO G := by
      cases e1 ρ p <;> rfl
    rw [this]
    exact hk.thenS fun j p2 => q j p2
  refine bindS fun j p1 => s_E (fun row hrow => ?_) fun _ _ => idxT_nx
  obtain ⟨n, hn, hr⟩ := idx_at hrow
  rw [pl_two hx hn hr]
  show SR (F := F) _ I K er fr (oSeq ((e2 ρ p1).thenO fun y p3 => _) m) p1
  rw [thenO_seq]
  refine (hl p1).thenS fun l p2 => s_E (fun a ha => ?_) fun _ _ => idxT_nx
  obtain ⟨n2, hn2, ha⟩ := idx_at ha
  have hd : (xs.map (eL eI))[n]? = some (.lst (row.map eI)) := by
    rw [List.getElem?_map, hr]
    rfl
  have ht : treeAt [n] (eL (eL eI) xs) = some (.lst (row.map eI)) := by
    show ((xs.map (eL eI))[n]?).bind (treeAt []) = _
    rw [hd]
    rfl
  have hg : (row.map eI)[n2]? = some (.int a) := by
    rw [List.getElem?_map, ha]
    rfl
  have hi : ixN (row.map eI).length l = some n2 := by rw [List.length_map]; exact hn2
  have body : ∀ G : Option Pen → O, (match (match ρ[(i, [n]).1]? with | some (some c) => if (i, [n]).2.length < c.o then treeAt (i, [n]).2 c.d else none | _ => none) with
    | some (.lst ds) => match ixN ds.length l with
      | some j => match ds[j]? with
        | some (.int a) => (e ρ p2).thenO fun u p3 => match u.d with
          | .int b => match mutL (lSet j) (fun es => es.length == ds.length) (i, [n]) (zS (.int (w a b))) ρ with | some ρ' => O.nx ρ' p3 | none => .bad
          | _ => .bad
        | _ => .bad
      | none => .bad
    | _ => .bad) = (e ρ p2).thenO fun u p3 => match u.d with
          | .int b => match mutL (lSet n2) (fun es => es.length == (row.map eI).length) (i, [n]) (zS (.int (w a b))) ρ with | some ρ' => O.nx ρ' p3 | none => .bad
          | _ => .bad := fun _ => by
    dsimp only
    rw [hx]
    dsimp only
    rw [if_pos (show [n].length < 2 from Nat.lt_succ_self 1), ht]
    dsimp only
    rw [hi]
    dsimp only
    rw [hg]
  show SR (F := F) _ I K er fr (oSeq (match (match ρ[(i, [n]).1]? with | some (some c) => if (i, [n]).2.length < c.o then treeAt (i, [n]).2 c.d else none | _ => none) with
    | some (.lst ds) => match ixN ds.length l with
      | some j => match ds[j]? with
        | some (.int a) => (e ρ p2).thenO fun u p3 => match u.d with
          | .int b => match mutL (lSet j) (fun es => es.length == ds.length) (i, [n]) (zS (.int (w a b))) ρ with | some ρ' => O.nx ρ' p3 | none => .bad
          | _ => .bad
        | _ => .bad
      | none => .bad
    | _ => .bad) m) p2
  rw [body fun _ => .bad, thenO_seq]
  refine (h p2).thenS fun v p3 => s_E (fun row' hrow' => ?_) fun _ _ => setT_nx
  refine s_E (fun ys hys => ?_) fun _ _ => setT_nx
  obtain ⟨m2, q2, rfl⟩ := setT_ok hrow'
  obtain ⟨m1, q1, rfl⟩ := setT_ok hys
  rw [hn] at q1
  cases q1
  rw [hn2] at q2
  cases q2
  dsimp only
  rw [mut2 hx hd (frL_lf rfl) (by simp)]
  have g := g (xs.set n (row.set n2 (w a v))) p3
  rw [← hρ, eL, List.map_set] at g
  have eq2 : eL eI (row.set n2 (w a v)) = .lst ((lSet n2).f (.int (w a v)) (row.map eI)) := by
    show D.lst ((row.set n2 (w a v)).map eI) = D.lst ((row.map eI).set n2 (eI (w a v)))
    rw [List.map_set]
  rw [eq2] at g
  exact g
end
end
end DL
set_option Elab.async false
set_option linter.all false
set_option maxRecDepth 100000
set_option maxHeartbeats 4000000
/-! # Plain library 0: running typed texts -/
namespace DL
open PySem PySem.Spec PyProof.Rows L2
noncomputable section
section
variable {α β γ σ τ κ r φ : Type}
@[simp] theorem E.bind_ok (a : α) (k : α → E β) : E.bind (.ok a) k = k a := rfl
@[simp] theorem E.bindB_ok (a : α) (k : α → E β) : E.bindB (.ok a) k = k a := rfl
@[simp] theorem E.bind_exc (c : Nat) (fs : List D) (k : α → E β) : E.bind (.exc c fs) k = .exc c fs := rfl
@[simp] theorem Dr.bind_ok (a : α) (k : α → Dr β) : Dr.bind (.ret (.ok a)) k = k a := rfl
@[simp] theorem Dr.bindB_ok (a : α) (k : α → Dr β) : Dr.bindB (.ret (.ok a)) k = k a := rfl
@[simp] theorem bindF_E (s : σ) (k : σ → E (Fl τ κ r)) : bindF (F := E) (.ok (.nx s)) k = k s := rfl
@[simp] theorem bindF_Er (x : r) (k : σ → E (Fl τ κ r)) : bindF (F := E) (.ok (.ret x)) k = .ok (.ret x) := rfl
@[simp] theorem bindF_D (s : σ) (k : σ → Dr (Fl τ κ r)) : bindF (F := Dr) (.ret (.ok (.nx s))) k = k s := rfl
@[simp] theorem fnT_E (x : r) : fnT (F := E) (σ := σ) (κ := κ) (.ok (.ret x)) = .ok x := rfl
@[simp] theorem fnT_D (x : r) : fnT (F := Dr) (σ := σ) (κ := κ) (.ret (.ok (.ret x))) = .ret (.ok x) := rfl
@[simp] theorem fnN_E (w : r) (s : σ) : fnN (F := E) (κ := κ) w (.ok (.nx s)) = .ok w := rfl
@[simp] theorem fnN_Er (w x : r) : fnN (F := E) (σ := σ) (κ := κ) w (.ok (.ret x)) = .ok x := rfl
theorem forT_E {tb : σ → α → E (Fl σ σ r)} {R : φ → σ} {g : φ → α → φ} {xs : List α} (h : ∀ f x, x ∈ xs → tb (R f) x = .ok (.nx (R (g f x)))) (f : φ) : forT (F := E) (κ := κ) tb xs (R f) = .ok (.nx (R (xs.foldl g f))) := by
  induction xs generalizing f with
  | nil => rfl
  | cons x xs ih =>
    show E.bind (tb (R f) x) _ = _
    rw [h f x List.mem_cons_self]
    exact ih (fun f y hy => h f y (List.mem_cons_of_mem _ hy)) (g f x)
theorem forT_D {tb : σ → α → Dr (Fl σ σ r)} {R : φ → σ} {g : φ → α → φ} {xs : List α} (h : ∀ f x, x ∈ xs → tb (R f) x = .ret (.ok (.nx (R (g f x))))) (f : φ) : forT (F := Dr) (κ := κ) tb xs (R f) = .ret (.ok (.nx (R (xs.foldl g f)))) := by
  induction xs generalizing f with
  | nil => rfl
  | cons x xs ih =>
    show Dr.bind (tb (R f) x) _ = _
    rw [h f x List.mem_cons_self]
    exact ih (fun f y hy => h f y (List.mem_cons_of_mem _ hy)) (g f x)
/-- with an invariant -/
theorem forT_EI {tb : σ → α → E (Fl σ σ r)} {R : φ → σ} {g : φ → α → φ} {I : φ → Prop} {xs : List α} (h : ∀ f x, x ∈ xs → I f → tb (R f) x = .ok (.nx (R (g f x))) ∧ I (g f x)) (f : φ) (hI : I f) : forT (F := E) (κ := κ) tb xs (R f) = .ok (.nx (R (xs.foldl g f))) ∧ I (xs.foldl g f) := by
  induction xs generalizing f with
  | nil => exact ⟨rfl, hI⟩
  | cons x xs ih =>
    obtain ⟨h1, h2⟩ := h f x List.mem_cons_self hI
    show E.bind (tb (R f) x) _ = _ ∧ _
    rw [h1]
    exact ih (fun f y hy => h f y (List.mem_cons_of_mem _ hy)) (g f x) h2
theorem lcT_E {ft : α → E Bool} {ge : α → E β} {w : α → Bool} {v : α → β} : ∀ {xs : List α}, (∀ x ∈ xs, ft x = .ok (w x) ∧ (w x = true → ge x = .ok (v x))) → lcT (F := E) ft ge xs = .ok ((xs.filter w).map v)
  | [], _ => rfl
  | x :: xs, h => by
    obtain ⟨h1, h2⟩ := h x List.mem_cons_self
    have ih := lcT_E (xs := xs) fun y hy => h y (List.mem_cons_of_mem _ hy)
    show E.bindB (ft x) _ = _
    rw [h1, List.filter_cons]
    cases q : w x with
    | false => exact ih
    | true =>
      show E.bindB (ge x) _ = _
      rw [h2 q]
      show E.bindB (lcT (F := E) ft ge xs) _ = _
      rw [ih]
      rfl
theorem lcT_D {ft : α → Dr Bool} {ge : α → Dr β} {w : α → Bool} {v : α → β} : ∀ {xs : List α}, (∀ x ∈ xs, ft x = .ret (.ok (w x)) ∧ (w x = true → ge x = .ret (.ok (v x)))) → lcT (F := Dr) ft ge xs = .ret (.ok ((xs.filter w).map v))
  | [], _ => rfl
  | x :: xs, h => by
    obtain ⟨h1, h2⟩ := h x List.mem_cons_self
    have ih := lcT_D (xs := xs) fun y hy => h y (List.mem_cons_of_mem _ hy)
    show Dr.bindB (ft x) _ = _
    rw [h1, List.filter_cons]
    cases q : w x with
    | false => exact ih
    | true =>
      show Dr.bindB (ge x) _ = _
      rw [h2 q]
      show Dr.bindB (lcT (F := Dr) ft ge xs) _ = _
      rw [ih]
      rfl
/-! ### ranges -/
theorem mem_rgT {x : Int} : ∀ {n : Nat} {lo : Int}, x ∈ rgT lo 1 n ↔ lo ≤ x ∧ x < lo + n
  | 0, lo => by
    show x ∈ [] ↔ _
    constructor
    · intro h; cases h
    · intro h; omega
  | n + 1, lo => by
    show x ∈ lo :: rgT (lo + 1) 1 n ↔ _
    rw [List.mem_cons, mem_rgT]
    omega
theorem mem_rgT' {x : Int} : ∀ {n : Nat} {lo : Int}, x ∈ rgT lo (-1) n ↔ lo - n < x ∧ x ≤ lo
  | 0, lo => by
    show x ∈ [] ↔ _
    constructor
    · intro h; cases h
    · intro h; omega
  | n + 1, lo => by
    show x ∈ lo :: rgT (lo + -1) (-1) n ↔ _
    rw [List.mem_cons, mem_rgT']
    omega
theorem rng2_ok {i j : Int} (h1 : -(2 ^ 62) ≤ i) (h2 : i < 2 ^ 62) (h3 : -(2 ^ 62) ≤ j) (h4 : j < 2 ^ 62) : rng2T i j = .ok (rgT i 1 (j - i).toNat) := by
  unfold rng2T
  exact if_pos ⟨h1, h2, h3, h4⟩
theorem rng3_dn {i j : Int} (h1 : -(2 ^ 30) ≤ i) (h2 : i < 2 ^ 30) (h3 : -(2 ^ 30) ≤ j) (h4 : j < 2 ^ 30) : rng3T i j (-1) = .ok (rgT i (-1) (i - j).toNat) := by
  have e : Builtin.Range.rangeSize i j (-1) = ((i - j).toNat : Int) := by
    unfold Builtin.Range.rangeSize
    rw [if_neg (by decide)]
    split
    · rw [show (-(-1) : Int) = 1 from rfl, Int.ediv_one]
      omega
    · omega
  unfold rng3T
  rw [if_pos, e]
  · rfl
  · refine ⟨by decide, by decide, ?_, by rw [e]; rfl⟩
    have fl : ∀ x : Int, -(2 ^ 31) ≤ x → x < 2 ^ 31 → Builtin.Range.rangeFitsLong x = true := fun x a b => by
      unfold Builtin.Range.rangeFitsLong
      simp
      omega
    unfold Builtin.Range.small
    rw [e, fl i (by omega) (by omega), fl j (by omega) (by omega), fl (-1) (by omega) (by omega), fl _ (by omega) (by omega), if_neg (by decide), fl _ (by omega) (by omega)]
    simp
theorem limT_ok {ys : List α} (h : ys.length ≤ LIM) : limT ys = .ok ys := by
  unfold limT
  exact if_pos h
theorem appT_ok {xs ys : List α} (h : xs.length + ys.length ≤ LIM) : appT xs ys = .ok (xs ++ ys) := by
  unfold appT
  exact if_pos h
theorem rgT_len {c : Int} : ∀ {n : Nat} {lo : Int}, (rgT lo c n).length = n
  | 0, _ => rfl
  | n + 1, lo => by
    show (rgT (lo + c) c n).length + 1 = _
    rw [rgT_len]
/-! ### a row told by a function -/
def tab (n : Nat) (f : Nat → Int) : List Int := (List.range n).map f
def upd1 (f : Nat → Int) (k : Nat) (v : Int) : Nat → Int := fun j => if j = k then v else f j
theorem tab_len {n : Nat} {f : Nat → Int} : (tab n f).length = n := by simp [tab]
theorem tab_congr {n : Nat} {f g : Nat → Int} (h : ∀ j, j < n → f j = g j) : tab n f = tab n g := by
  unfold tab
  exact List.map_congr_left fun j hj => h j (List.mem_range.mp hj)
theorem ixN_ok {n : Nat} {i : Int} (h0 : 0 ≤ i) (h1 : i < n) : ixN n i = some i.toNat := by
  unfold ixN
  rw [if_pos h0, if_pos h1]
theorem idx_ok {xs : List α} {i : Int} {x : α} (h0 : 0 ≤ i) (h : xs[i.toNat]? = some x) : idxT xs i = .ok x := by
  rw [idxT_eq]
  unfold atI
  have l : i.toNat < xs.length := by
    obtain ⟨h, _⟩ := List.getElem?_eq_some_iff.mp h
    exact h
  rw [ixN_ok h0 (by omega)]
  show E.ofO (xs[i.toNat]?) = _
  rw [h]
  rfl
theorem tab_get {n : Nat} {f : Nat → Int} {k : Nat} (h : k < n) : (tab n f)[k]? = some (f k) := by
  unfold tab
  rw [List.getElem?_map, List.getElem?_range h]
  rfl
theorem idx_tab {n : Nat} {f : Nat → Int} {i : Int} (h0 : 0 ≤ i) (h1 : i < n) : idxT (tab n f) i = .ok (f i.toNat) := idx_ok h0 (tab_get (by omega))
theorem set_tab {n : Nat} {f : Nat → Int} {i v : Int} (h0 : 0 ≤ i) (h1 : i < n) : setT (tab n f) i v = .ok (tab n (upd1 f i.toNat v)) := by
  unfold setT
  rw [tab_len, ixN_ok h0 h1]
  show E.ok (setL _ _ _) = _
  rw [setL_eq]
  congr 1
  apply List.ext_getElem?
  intro j
  rw [List.getElem?_set]
  by_cases q : i.toNat = j
  · subst q
    rw [if_pos rfl, tab_get (by omega), if_pos (by rw [tab_len]; omega)]
    unfold upd1
    rw [if_pos rfl]
  · rw [if_neg q]
    by_cases l : j < n
    · rw [tab_get l, tab_get l]
      unfold upd1
      rw [if_neg (fun z => q z.symm)]
    · rw [List.getElem?_eq_none (by rw [tab_len]; omega), List.getElem?_eq_none (by rw [tab_len]; omega)]
theorem rep_tab {k : Int} (h0 : 0 ≤ k) (h1 : k ≤ 1000000) {v : Int} : repT [v] k = .ok (tab k.toNat fun _ => v) := by
  unfold repT
  rw [if_pos]
  · congr 1
    unfold tab
    apply List.ext_getElem?
    intro j
    simp
    by_cases l : j < k.toNat
    · rw [List.getElem?_replicate, if_pos l, List.getElem?_range l]
      rfl
    · rw [List.getElem?_replicate, if_neg l, List.getElem?_eq_none (by rw [List.length_range]; omega)]
      rfl
  · simp [lowI]
    omega
/-! ### ways of the draws -/
theorem wp_ret {Q : α → Prop} {a : α} (n : Nat) (h : Q a) : (Dr.ret (.ok a)).wp Q n := by cases n <;> exact h
theorem wp_draw1 {Q : α → Prop} {m : Int} {k : Int → Dr α} {n : Nat} (h0 : 0 < m) (h1 : m < 1073741824) (h : ∀ r, 0 ≤ r → r < m → (k r).wp Q n) : (Dr.bind (drawT m) k).wp Q (n + 1) := ⟨h0, h1, fun r a b => h r a b⟩
theorem wp_fn {Q : r → Prop} {t : Dr (Fl σ κ r)} {n : Nat} (h : t.wp (fun o => ∃ x, o = .ret x ∧ Q x) n) : (fnT t).wp Q n := by
  show (Dr.bind t _).wp Q (n + 0)
  refine Dr.wp_bind (Dr.wp_imp ?_ h)
  rintro a ⟨x, rfl, q⟩
  exact q
theorem wp_bindF {Q : Fl τ κ r → Prop} {t : Dr (Fl σ κ r)} {k : σ → Dr (Fl τ κ r)} {n m : Nat} (h : t.wp (fun o => ∃ s, o = .nx s ∧ (k s).wp Q m) n) : (bindF (F := Dr) t k).wp Q (n + m) := by
  refine Dr.wp_bind (Dr.wp_imp ?_ h)
  rintro a ⟨x, rfl, q⟩
  exact q
theorem wp_for {I : σ → Prop} {tb : σ → α → Dr (Fl σ σ r)} {n : Nat} {xs : List α} (h : ∀ s x, x ∈ xs → I s → (tb s x).wp (fun o => ∃ s, o = .nx s ∧ I s) n) : ∀ (s : σ), I s → (forT (F := Dr) (κ := κ) tb xs s).wp (fun o => ∃ s, o = .nx s ∧ I s) (xs.length * n) := by
  induction xs with
  | nil => exact fun s hs => wp_ret _ ⟨s, rfl, hs⟩
  | cons x xs ih =>
    intro s hs
    rw [List.length_cons, Nat.succ_mul, Nat.add_comm]
    refine Dr.wp_bind (Dr.wp_imp ?_ (h s x List.mem_cons_self hs))
    rintro a ⟨s', rfl, q⟩
    exact ih (fun s y hy => h s y (List.mem_cons_of_mem _ hy)) s' q
theorem memD_self {d : D} : ∀ {l : List D}, d ∈ l → beqD d d = true → memD d l = true := fun {l} h e => by
  unfold memD
  rw [List.any_eq_true]
  exact ⟨d, h, e⟩
end
end
end DL
set_option Elab.async false
set_option linter.all false
set_option maxRecDepth 100000
set_option maxHeartbeats 4000000
/-! # Plain library 1: rows of powers as functions; loops in place -/
namespace DL
open PySem PySem.Spec PyProof.Rows L2
noncomputable section
/-! ### finite sums -/
def sumN (f : Nat → Int) : Nat → Int
  | 0 => 0
  | n + 1 => sumN f n + f n
theorem sumN_congr {f g : Nat → Int} : ∀ {n : Nat}, (∀ j, j < n → f j = g j) → sumN f n = sumN g n
  | 0, _ => rfl
  | n + 1, h => by
    show sumN f n + f n = sumN g n + g n
    rw [sumN_congr fun j hj => h j (by omega), h n (by omega)]
theorem sumN_add (f g : Nat → Int) : ∀ n, sumN (fun j => f j + g j) n = sumN f n + sumN g n
  | 0 => rfl
  | n + 1 => by
    show sumN _ n + (f n + g n) = sumN f n + f n + (sumN g n + g n)
    rw [sumN_add f g n]
    omega
theorem sumN_sub (f g : Nat → Int) : ∀ n, sumN (fun j => f j - g j) n = sumN f n - sumN g n
  | 0 => rfl
  | n + 1 => by
    show sumN _ n + (f n - g n) = sumN f n + f n - (sumN g n + g n)
    rw [sumN_sub f g n]
    omega
theorem sumN_mul (c : Int) (f : Nat → Int) : ∀ n, sumN (fun j => c * f j) n = c * sumN f n
  | 0 => by show (0 : Int) = c * 0; rw [Int.mul_zero]
  | n + 1 => by
    show sumN _ n + c * f n = c * (sumN f n + f n)
    rw [sumN_mul c f n, Int.mul_add]
theorem sumN_zero {f : Nat → Int} : ∀ {n : Nat}, (∀ j, j < n → f j = 0) → sumN f n = 0
  | 0, _ => rfl
  | n + 1, h => by
    show sumN f n + f n = 0
    rw [sumN_zero fun j hj => h j (by omega), h n (by omega)]
    rfl
/-- the front part falls away -/
theorem sumN_shift (F : Nat → Int) (k : Nat) : ∀ m, sumN (fun j => if k ≤ j then F (j - k) else 0) (k + m) = sumN F m
  | 0 => sumN_zero fun j hj => if_neg (by omega)
  | m + 1 => by
    show sumN _ (k + m) + (if k ≤ k + m then F (k + m - k) else 0) = sumN F m + F m
    rw [sumN_shift F k m, if_pos (by omega), show k + m - k = m by omega]
theorem sumN_shift' (F : Nat → Int) (k n : Nat) : sumN (fun j => if k ≤ j then F (j - k) else 0) n = sumN F (n - k) := by
  by_cases h : k ≤ n
  · have e := sumN_shift F k (n - k)
    rw [show k + (n - k) = n by omega] at e
    exact e
  · rw [show n - k = 0 by omega]
    exact sumN_zero fun j hj => if_neg (by omega)
theorem sumN_succ' (f : Nat → Int) : ∀ n, sumN f (n + 1) = f 0 + sumN (fun j => f (j + 1)) n
  | 0 => by show 0 + f 0 = f 0 + 0; omega
  | n + 1 => by
    show sumN f (n + 1) + f (n + 1) = f 0 + (sumN (fun j => f (j + 1)) n + f (n + 1))
    rw [sumN_succ' f n]
    omega
theorem sumN_rev (f : Nat → Int) : ∀ n, sumN f n = sumN (fun j => f (n - 1 - j)) n
  | 0 => rfl
  | n + 1 => by
    rw [sumN_succ']
    show f 0 + _ = sumN (fun j => f (n + 1 - 1 - j)) n + f (n + 1 - 1 - n)
    rw [show n + 1 - 1 - n = 0 by omega, sumN_rev (fun j => f (j + 1)) n, Int.add_comm]
    congr 1
    exact sumN_congr fun j hj => by
      show f (n - 1 - j + 1) = f (n + 1 - 1 - j)
      rw [show n - 1 - j + 1 = n + 1 - 1 - j by omega]
/-! ### products of rows -/
def conv (f g : Nat → Int) (n : Nat) : Int := sumN (fun j => f j * g (n - j)) (n + 1)
def dlt (j : Nat) : Int := if j = 0 then 1 else 0
/-- the row times 1 - x ^ k -/
def csub (k : Nat) (f : Nat → Int) (j : Nat) : Int := if k ≤ j then f j - f (j - k) else f j
theorem csub_eq (k : Nat) (f : Nat → Int) (j : Nat) : csub k f j = f j - (if k ≤ j then f (j - k) else 0) := by
  unfold csub
  split <;> omega
theorem conv_csubL (k : Nat) (f g : Nat → Int) (n : Nat) : conv (csub k f) g n = csub k (conv f g) n := by
  rw [csub_eq]
  unfold conv
  have e : sumN (fun j => csub k f j * g (n - j)) (n + 1) = sumN (fun j => f j * g (n - j)) (n + 1) - sumN (fun j => if k ≤ j then (fun i => f i * g (n - k - i)) (j - k) else 0) (n + 1) := by
    rw [← sumN_sub]
    refine sumN_congr fun j hj => ?_
    rw [csub_eq, Int.sub_mul]
    congr 1
    split
    · show f (j - k) * g (n - j) = f (j - k) * g (n - k - (j - k))
      rw [show n - k - (j - k) = n - j by omega]
    · rw [Int.zero_mul]
  rw [e, sumN_shift' (fun i => f i * g (n - k - i)) k (n + 1)]
  congr 1
  split
  · rename_i h
    rw [show n + 1 - k = n - k + 1 by omega]
  · rename_i h
    rw [show n + 1 - k = 0 by omega]
    rfl
theorem conv_comm (f g : Nat → Int) (n : Nat) : conv f g n = conv g f n := by
  unfold conv
  rw [sumN_rev]
  refine sumN_congr fun j hj => ?_
  rw [show n + 1 - 1 - j = n - j by omega, show n - (n - j) = j by omega, Int.mul_comm]
theorem csub_congr {k n : Nat} {f g : Nat → Int} (h : ∀ j, j ≤ n → f j = g j) : csub k f n = csub k g n := by
  unfold csub
  rw [h n (Nat.le_refl _), h (n - k) (by omega)]
theorem conv_csubR (k : Nat) (f g : Nat → Int) (n : Nat) : conv f (csub k g) n = csub k (conv f g) n := by
  rw [conv_comm, conv_csubL]
  exact csub_congr fun j _ => conv_comm g f j
theorem conv_congr {f f' g g' : Nat → Int} {n : Nat} (h : ∀ j, j ≤ n → f j = f' j) (h' : ∀ j, j ≤ n → g j = g' j) : conv f g n = conv f' g' n :=
  sumN_congr fun j hj => by rw [h j (by omega), h' (n - j) (by omega)]
theorem conv_dlt (g : Nat → Int) (n : Nat) : conv dlt g n = g n := by
  unfold conv
  rw [sumN_succ', show sumN (fun j => dlt (j + 1) * g (n - (j + 1))) n = 0 from sumN_zero fun j _ => by
    show (if j + 1 = 0 then (1 : Int) else 0) * _ = 0
    rw [if_neg (by omega), Int.zero_mul]]
  show (1 : Int) * g (n - 0) + 0 = g n
  rw [Int.one_mul, Int.add_zero, Nat.sub_zero]
/-- the row by 1 - x ^ k -/
def padF (k : Nat) (f : Nat → Int) : Nat → Nat → Int
  | 0, j => f j
  | n + 1, j => if k ≤ j then f j + padF k f n (j - k) else f j
def padd (k : Nat) (f : Nat → Int) (j : Nat) : Int := padF k f j j
theorem padF_fuel {k : Nat} (hk : 0 < k) (f : Nat → Int) : ∀ (n m j : Nat), j ≤ n → j ≤ m → padF k f n j = padF k f m j
  | 0, 0, j, _, _ => rfl
  | 0, m + 1, j, h, _ => by
    show f j = if k ≤ j then _ else f j
    rw [if_neg (by omega)]
  | n + 1, 0, j, _, h => by
    show (if k ≤ j then _ else f j) = f j
    rw [if_neg (by omega)]
  | n + 1, m + 1, j, h1, h2 => by
    show (if k ≤ j then f j + padF k f n (j - k) else f j) = if k ≤ j then f j + padF k f m (j - k) else f j
    split
    · rw [padF_fuel hk f n m (j - k) (by omega) (by omega)]
    · rfl
theorem padd_eq {k : Nat} (hk : 0 < k) (f : Nat → Int) (j : Nat) : padd k f j = if k ≤ j then f j + padd k f (j - k) else f j := by
  unfold padd
  cases j with
  | zero =>
    show f 0 = _
    rw [if_neg (by omega)]
  | succ j =>
    show (if k ≤ j + 1 then f (j + 1) + padF k f j (j + 1 - k) else f (j + 1)) = _
    split
    · rw [padF_fuel hk f j (j + 1 - k) (j + 1 - k) (by omega) (Nat.le_refl _)]
    · rfl
theorem padF_congr {k : Nat} {f g : Nat → Int} : ∀ {n j : Nat}, (∀ i, i ≤ j → f i = g i) → padF k f n j = padF k g n j
  | 0, j, h => h j (Nat.le_refl _)
  | n + 1, j, h => by
    show (if k ≤ j then f j + padF k f n (j - k) else f j) = if k ≤ j then g j + padF k g n (j - k) else g j
    rw [h j (Nat.le_refl _), padF_congr (n := n) (j := j - k) fun i hi => h i (by omega)]
theorem padd_congr {k j : Nat} {f g : Nat → Int} (h : ∀ i, i ≤ j → f i = g i) : padd k f j = padd k g j := padF_congr h
theorem csub_padd {k : Nat} (hk : 0 < k) (f : Nat → Int) (j : Nat) : csub k (padd k f) j = f j := by
  unfold csub
  rw [padd_eq hk f j]
  split <;> omega
/-! ### loops in place -/
theorem foldl_range_succ {α : Type} (g : α → Int → α) (s : α) : ∀ (n : Nat) (lo : Int), (rgT lo 1 (n + 1)).foldl g s = g ((rgT lo 1 n).foldl g s) (lo + n)
  | 0, lo => by
    show g s lo = g s (lo + (0 : Nat))
    rw [show lo + ((0 : Nat) : Int) = lo by omega]
  | n + 1, lo => by
    show (rgT (lo + 1) 1 (n + 1)).foldl g (g s lo) = g ((rgT (lo + 1) 1 n).foldl g (g s lo)) _
    rw [foldl_range_succ g (g s lo) n (lo + 1)]
    congr 1
    rw [Int.natCast_add]
    omega
/-- upwards: out[t] = out[t] + out[t - k] -/
theorem up_loop (k : Nat) (hk : 0 < k) (f : Nat → Int) : ∀ n : Nat, (rgT (k : Int) 1 n).foldl (fun h x => upd1 h x.toNat (h x.toNat + h (x.toNat - k))) f = fun j => if j < k + n then padd k f j else f j
  | 0 => by
    funext j
    show f j = if j < k + 0 then padd k f j else f j
    split
    · rw [padd_eq hk, if_neg (by omega)]
    · rfl
  | n + 1 => by
    rw [foldl_range_succ, up_loop k hk f n]
    funext j
    dsimp only [upd1]
    rw [show ((k : Int) + n).toNat = k + n by omega]
    by_cases h : j = k + n
    · subst h
      rw [if_pos rfl, if_neg (by omega), if_pos (show k + n - k < k + n by omega), if_pos (show k + n < k + (n + 1) by omega)]
      conv => rhs; rw [padd_eq hk, if_pos (by omega)]
    · rw [if_neg h]
      by_cases q : j < k + n
      · rw [if_pos q, if_pos (by omega)]
      · rw [if_neg q, if_neg (by omega)]
/-- downwards: out[t] = out[t] - out[t - k] -/
theorem down_loop (k : Nat) (hk : 0 < k) : ∀ (n : Nat) (f : Nat → Int), (rgT ((k : Int) + n - 1) (-1) n).foldl (fun h x => upd1 h x.toNat (h x.toNat - h (x.toNat - k))) f = fun j => if j < k + n then csub k f j else f j
  | 0, f => by
    funext j
    show f j = if j < k + 0 then csub k f j else f j
    split
    · unfold csub
      rw [if_neg (by omega)]
    · rfl
  | n + 1, f => by
    show (rgT (((k : Int) + (n + 1 : Nat) - 1) + -1) (-1) n).foldl _ (upd1 f ((k : Int) + (n + 1 : Nat) - 1).toNat _) = _
    rw [show ((k : Int) + (n + 1 : Nat) - 1) + -1 = (k : Int) + n - 1 by omega, show ((k : Int) + (n + 1 : Nat) - 1).toNat = k + n by omega, down_loop k hk n]
    funext j
    dsimp only [csub, upd1]
    by_cases h : j = k + n
    · subst h
      rw [if_neg (by omega), if_pos rfl, if_pos (show k + n < k + (n + 1) by omega), if_pos (by omega)]
    · have h2 : ¬ (j < k + n ∧ j - k = k + n) := by omega
      simp only [if_neg h]
      by_cases q : j < k + n
      · rw [if_pos q, if_pos (show j < k + (n + 1) by omega)]
        by_cases r : k ≤ j
        · rw [if_pos r, if_pos r, if_neg (by omega)]
        · rw [if_neg r, if_neg r]
      · rw [if_neg q, if_neg (by omega)]
/-! the rows of the products of all 1 - x ^ k, and of one by them -/
def cseq : Nat → Nat → Int
  | 0 => dlt
  | k + 1 => csub (k + 1) (cseq k)
def pseq : Nat → Nat → Int
  | 0 => dlt
  | k + 1 => padd (k + 1) (pseq k)
theorem cp_one : ∀ (k n : Nat), conv (cseq k) (pseq k) n = dlt n
  | 0, n => conv_dlt dlt n
  | k + 1, n => by
    show conv (csub (k + 1) (cseq k)) (padd (k + 1) (pseq k)) n = _
    rw [conv_csubL, ← conv_csubR, conv_congr (fun _ _ => rfl) (fun j _ => csub_padd (by omega) (pseq k) j)]
    exact cp_one k n
theorem cseq_far {k j : Nat} (h : j ≤ k) : cseq (k + 1) j = cseq k j := by
  show csub (k + 1) (cseq k) j = _
  unfold csub
  rw [if_neg (by omega)]
theorem pseq_far {k j : Nat} (h : j ≤ k) : pseq (k + 1) j = pseq k j := by
  show padd (k + 1) (pseq k) j = _
  rw [padd_eq (by omega), if_neg (by omega)]
theorem cseq_same {k m j : Nat} (h : j ≤ k) : cseq (k + m) j = cseq k j := by
  induction m with
  | zero => rfl
  | succ m ih => rw [show k + (m + 1) = k + m + 1 by omega, cseq_far (by omega), ih]
theorem pseq_same {k m j : Nat} (h : j ≤ k) : pseq (k + m) j = pseq k j := by
  induction m with
  | zero => rfl
  | succ m ih => rw [show k + (m + 1) = k + m + 1 by omega, pseq_far (by omega), ih]
/-! the rows told as lists, to be reckoned -/
def subL (k : Nat) (l : List Int) : List Int := l.zipWith (· - ·) (List.replicate k 0 ++ l)
theorem subL_tab {k n : Nat} {f : Nat → Int} : subL k (tab n f) = tab n (csub k f) := by
  apply List.ext_getElem?
  intro j
  unfold subL
  rw [List.getElem?_zipWith]
  by_cases h : j < n
  · rw [tab_get h, tab_get h, List.getElem?_append]
    simp only [List.length_replicate]
    unfold csub
    by_cases q : j < k
    · rw [if_pos q, List.getElem?_replicate, if_pos q, if_neg (by omega)]
      simp
    · rw [if_neg q, tab_get (by omega), if_pos (by omega)]
  · rw [List.getElem?_eq_none (l := tab n f) (by rw [tab_len]; omega), List.getElem?_eq_none (l := tab n (csub k f)) (by rw [tab_len]; omega)]
def cL (n : Nat) : Nat → List Int
  | 0 => tab n dlt
  | k + 1 => subL (k + 1) (cL n k)
theorem cL_eq (n : Nat) : ∀ k, cL n k = tab n (cseq k)
  | 0 => rfl
  | k + 1 => by
    show subL (k + 1) (cL n k) = _
    rw [cL_eq n k, subL_tab]
    rfl
theorem tab_take {n m : Nat} {f : Nat → Int} (h : m ≤ n) : (tab n f).take m = tab m f := by
  unfold tab
  rw [← List.map_take, List.take_range, Nat.min_eq_left h]
theorem tab_sum (n : Nat) (f : Nat → Int) : (tab n f).sum = sumN f n := by
  induction n with
  | zero => rfl
  | succ n ih =>
    unfold tab at *
    rw [List.range_succ, List.map_append, List.sum_append, ih]
    show sumN f n + (f n + 0) = sumN f n + f n
    omega
end
end DL
set_option Elab.async false
set_option linter.all false
set_option maxRecDepth 100000
set_option maxHeartbeats 4000000
/-! # Plain library 2: what may be shown -/
namespace DL
open PySem PySem.Spec PyProof.Rows L2
noncomputable section
def smallI (i : Int) : Bool := decide (i.natAbs < 100000000000000000000)
mutual
def smD : D → Bool
  | .int i => smallI i
  | .non => true
  | .bl _ => true
  | .tup xs => smDs xs
  | .lst xs => smDs xs
  | _ => false
def smDs : List D → Bool
  | [] => true
  | d :: ds => smD d && smDs ds
end
mutual
def szD : D → Nat
  | .tup xs => szDs xs + 1
  | .lst xs => szDs xs + 1
  | _ => 1
def szDs : List D → Nat
  | [] => 0
  | d :: ds => szD d + szDs ds
end
theorem log_small {i : Int} (h : smallI i = true) : i.natAbs.log2 < 1920 := by
  have h : i.natAbs < 100000000000000000000 := of_decide_eq_true h
  by_cases z : i.natAbs = 0
  · rw [z]
    decide
  · rw [Nat.log2_lt z]
    refine Nat.lt_of_lt_of_le h ?_
    exact Nat.le_trans (by decide : 100000000000000000000 ≤ 2 ^ 100) (Nat.pow_le_pow_right (n := 2) (by decide) (by decide))
mutual
theorem sm_show : ∀ d : D, smD d = true → (toPy d).showable = true ∧ nsD d = true ∧ wt d + 2 ≤ 25 * szD d
  | .int i, h => ⟨decide_eq_true (log_small h), rfl, by
    have h : i.natAbs < 100000000000000000000 := of_decide_eq_true h
    show (if i.natAbs < 100000000000000000000 then 21 else 1921) + 2 ≤ 25 * 1
    rw [if_pos h]
    decide⟩
  | .non, _ => ⟨rfl, rfl, by show 5 + 2 ≤ 25 * 1; decide⟩
  | .bl _, _ => ⟨rfl, rfl, by show 5 + 2 ≤ 25 * 1; decide⟩
  | .tup xs, h => by
    obtain ⟨a, b, c⟩ := sm_shows xs h
    exact ⟨a, b, by show wts xs + 6 + 2 ≤ 25 * (szDs xs + 1); omega⟩
  | .lst xs, h => by
    obtain ⟨a, b, c⟩ := sm_shows xs h
    exact ⟨a, b, by show wts xs + 6 + 2 ≤ 25 * (szDs xs + 1); omega⟩
theorem sm_shows : ∀ ds : List D, smDs ds = true → PyData.showableAll (toPys ds) = true ∧ nsDs ds = true ∧ wts ds ≤ 25 * szDs ds
  | [], _ => ⟨rfl, rfl, Nat.le_refl _⟩
  | d :: ds, h => by
    have h : (smD d && smDs ds) = true := h
    rw [Bool.and_eq_true] at h
    obtain ⟨a, b, c⟩ := sm_show d h.1
    obtain ⟨a', b', c'⟩ := sm_shows ds h.2
    refine ⟨?_, ?_, ?_⟩
    · show ((toPy d).showable && PyData.showableAll (toPys ds)) = true
      rw [a, a']
      rfl
    · show (nsD d && nsDs ds) = true
      rw [b, b']
      rfl
    · show (wt d + 2) + wts ds ≤ 25 * (szD d + szDs ds)
      omega
end
theorem repOk_sm {d : D} (h1 : dOk d 60 = true) (h2 : smD d = true) (h3 : szD d ≤ 40000) : repOk d = true := by
  obtain ⟨a, b, c⟩ := sm_show d h2
  unfold repOk
  rw [h1, a, b, decide_eq_true (by show wt d ≤ 1000000; omega)]
  rfl
theorem smDs_ints : ∀ {xs : List Int}, (∀ x ∈ xs, smallI x = true) → smDs (xs.map D.int) = true
  | [], _ => rfl
  | x :: xs, h => by
    show (smallI x && smDs (xs.map D.int)) = true
    rw [h x List.mem_cons_self, smDs_ints fun y hy => h y (List.mem_cons_of_mem _ hy)]
    rfl
theorem szDs_ints : ∀ {xs : List Int}, szDs (xs.map D.int) = xs.length
  | [] => rfl
  | x :: xs => by
    show 1 + szDs (xs.map D.int) = xs.length + 1
    rw [szDs_ints, Nat.add_comm]
theorem rpr_ints {xs : List Int} (h : ∀ x ∈ xs, smallI x = true) (l : xs.length ≤ 30000) : rprT (eT eI xs) = .ok () := by
  unfold rprT
  exact if_pos (repOk_sm (dOk_mono _ (by decide) ((qT qI).ok xs)) (smDs_ints h) (by show szDs (xs.map D.int) + 1 ≤ 40000; rw [szDs_ints]; omega))
theorem rpr_int {x : Int} (h : smallI x = true) : rprT (eI x) = .ok () := by
  unfold rprT
  exact if_pos (repOk_sm (d := .int x) rfl h (by show 1 ≤ 40000; decide))
theorem cut_to {α : Type} {xs : List α} {k : Int} (h : 0 ≤ k) : cutT xs none (some k) = xs.take k.toNat := by
  show (xs.drop 0).take ((if k < 0 then (k + (xs.length : Int)).toNat else min k.toNat xs.length) - 0) = _
  rw [if_neg (by omega), List.drop_zero, Nat.sub_zero]
  by_cases q : k.toNat ≤ xs.length
  · rw [Nat.min_eq_left q]
  · rw [Nat.min_eq_right (by omega), List.take_length, List.take_of_length_le (by omega)]
theorem cut_from {α : Type} {xs : List α} {k : Int} (h : 0 ≤ k) : cutT xs (some k) none = xs.drop k.toNat := by
  show (xs.drop (if k < 0 then (k + (xs.length : Int)).toNat else min k.toNat xs.length)).take (xs.length - (if k < 0 then (k + (xs.length : Int)).toNat else min k.toNat xs.length)) = _
  rw [if_neg (by omega)]
  by_cases q : k.toNat ≤ xs.length
  · rw [Nat.min_eq_left q, List.take_of_length_le (by rw [List.length_drop]; omega)]
  · rw [Nat.min_eq_right (by omega), List.drop_length, List.take_nil, List.drop_of_length_le (by omega)]
theorem wp_eq {α : Type} {Q : α → Prop} {t : Dr α} {a : α} {n : Nat} (h : t = .ret (.ok a)) (q : Q a) : t.wp Q n := by
  rw [h]
  exact wp_ret n q
theorem sum_filter {α : Type} {w : α → Bool} {v : α → Int} : ∀ {xs : List α}, (∀ x ∈ xs, w x = false → v x = 0) → ((xs.filter w).map v).sum = (xs.map v).sum
  | [], _ => rfl
  | x :: xs, h => by
    have ih := sum_filter (w := w) (v := v) (xs := xs) fun y hy => h y (List.mem_cons_of_mem _ hy)
    rw [List.filter_cons]
    cases q : w x with
    | true => simp only [if_true, List.map_cons, List.sum_cons, ih]
    | false =>
      simp only [List.map_cons, List.sum_cons, h x List.mem_cons_self q, Int.zero_add]
      exact ih
theorem sum_range (v : Int → Int) : ∀ (n : Nat) (lo : Int), ((rgT lo 1 n).map v).sum = sumN (fun j => v (lo + (j : Int))) n
  | 0, _ => rfl
  | n + 1, lo => by
    rw [sumN_succ']
    show (v lo :: (rgT (lo + 1) 1 n).map v).sum = _
    rw [List.sum_cons, sum_range v n (lo + 1)]
    congr 1
    · congr 1
      omega
    · exact sumN_congr fun j _ => by
        show v (lo + 1 + (j : Int)) = v (lo + ((j + 1 : Nat) : Int))
        congr 1
        omega
def pickT {α : Type} (l : List α) : Dr α := fnT (F := Dr) (σ := Unit) (κ := Unit) (Dr.bind (Dr.bind (drawT (l.length : Int)) fun a1 => Dr.ret (idxT l a1)) fun a3 => Dr.ret (.ok (.ret a3)))
theorem wp_pick {α β : Type} {l : List α} {k : α → Dr β} {Q : β → Prop} {n : Nat} (h0 : 0 < l.length) (h1 : l.length < 1073741824) (h : ∀ x ∈ l, (k x).wp Q n) : (Dr.bind (pickT l) k).wp Q (n + 1) := by
  refine ⟨by omega, by omega, fun r a b => ?_⟩
  have hx : r.toNat < l.length := by omega
  have e : idxT l r = .ok l[r.toNat] := idx_ok a (List.getElem?_eq_getElem hx)
  show (Dr.bind (fnT (Dr.bind (Dr.ret (idxT l r)) fun a3 => Dr.ret (.ok (.ret a3)))) k).wp Q n
  rw [e, Dr.bind_ok, fnT_D, Dr.bind_ok]
  exact h _ (List.getElem_mem hx)
theorem len_filt {α β : Type} {w : α → Bool} {v : α → β} {xs : List α} {n : Nat} (h : xs.length ≤ n) : ((xs.filter w).map v).length ≤ n := by
  rw [List.length_map]
  exact Nat.le_trans (List.length_filter_le _ _) h
theorem same_ok {α : Type} [DecidableEq α] {a : α} {x : Bool} : sameT a a x = .ok x := by
  unfold sameT
  exact if_pos (decide_eq_true rfl)
theorem same_of {α : Type} [DecidableEq α] {a b : α} {x : Bool} (h : a = b) : sameT a b x = .ok x := by
  unfold sameT
  exact if_pos (decide_eq_true h)
end
end DL
set_option Elab.async false
set_option linter.all false
set_option maxRecDepth 100000
set_option maxHeartbeats 4000000
/-! # Plain library 3: products of rows by loops in place -/
namespace DL
open PySem PySem.Spec PyProof.Rows L2
noncomputable section
theorem rg_list : ∀ (n : Nat) (lo : Int), rgT lo 1 n = (List.range n).map (fun j : Nat => lo + (j : Int))
  | 0, _ => rfl
  | n + 1, lo => by
    rw [List.range_succ_eq_map, List.map_cons, List.map_map]
    show lo :: rgT (lo + 1) 1 n = _
    rw [rg_list n (lo + 1)]
    congr 1
    · show lo = lo + (0 : Nat)
      omega
    · refine List.map_congr_left fun j _ => ?_
      show lo + 1 + (j : Int) = lo + ((j + 1 : Nat) : Int)
      omega
theorem tab_rg (m : Nat) (g : Nat → Int) : tab m g = (rgT 0 1 m).map (fun x => g x.toNat) := by
  rw [rg_list, List.map_map]
  unfold tab
  refine List.map_congr_left fun j _ => ?_
  show g j = g ((0 : Int) + (j : Int)).toNat
  congr 1
  omega
theorem enumT_rg {α : Type} (v : Int → α) : ∀ (n : Nat) (lo : Int), enumT lo ((rgT lo 1 n).map v) = (rgT lo 1 n).map (fun x => (x, v x))
  | 0, _ => rfl
  | n + 1, lo => by
    show (lo, v lo) :: enumT (lo + 1) ((rgT (lo + 1) 1 n).map v) = (lo, v lo) :: (rgT (lo + 1) 1 n).map _
    rw [enumT_rg v n (lo + 1)]
theorem enum_tab (m : Nat) (g : Nat → Int) : enumT 0 (tab m g) = (rgT 0 1 m).map (fun x => (x, g x.toNat)) := by
  rw [tab_rg, enumT_rg]
/-- one row is laid over the other, from place i on -/
def lay (i : Nat) (c : Int) (f h : Nat → Int) (t : Nat) : Int := if i ≤ t then h t + c * f (t - i) else h t
theorem lay_loop (i : Nat) (c : Int) (f : Nat → Int) (h : Nat → Int) : ∀ n : Nat, (rgT 0 1 n).foldl (fun h x => upd1 h (x.toNat + i) (h (x.toNat + i) + c * f x.toNat)) h = fun t => if t < i + n then lay i c f h t else h t
  | 0 => by
    funext t
    show h t = if t < i + 0 then lay i c f h t else h t
    unfold lay
    split
    · rw [if_neg (by omega)]
    · rfl
  | n + 1 => by
    rw [foldl_range_succ, lay_loop i c f h n]
    funext t
    dsimp only [upd1]
    rw [show ((0 : Int) + (n : Int)).toNat = n by omega]
    by_cases q : t = n + i
    · subst q
      rw [if_pos rfl, if_neg (by omega), if_pos (show n + i < i + (n + 1) by omega)]
      unfold lay
      rw [if_pos (by omega), show n + i - i = n by omega]
    · rw [if_neg q]
      by_cases r : t < i + n
      · rw [if_pos r, if_pos (by omega)]
      · rw [if_neg r, if_neg (by omega)]
theorem sumN_cut {F : Nat → Int} {k : Nat} : ∀ {m : Nat}, (∀ j, k ≤ j → F j = 0) → k ≤ m → sumN F m = sumN F k
  | 0, _, h => by rw [show k = 0 by omega]
  | m + 1, z, h => by
    by_cases q : k = m + 1
    · rw [q]
    · show sumN F m + F m = _
      rw [z m (by omega), sumN_cut z (by omega), Int.add_zero]
theorem lay_all (g f : Nat → Int) (m : Nat) (h : Nat → Int) : ∀ n : Nat, ∀ t, t < m → (rgT 0 1 n).foldl (fun h x => lay x.toNat (g x.toNat) f h) h t = h t + sumN (fun i => if i ≤ t then g i * f (t - i) else 0) n
  | 0, t, _ => by
    show h t = h t + 0
    omega
  | n + 1, t, ht => by
    rw [foldl_range_succ]
    show lay _ _ _ _ t = h t + (sumN _ n + (if n ≤ t then g n * f (t - n) else 0))
    have ih := lay_all g f m h n t ht
    unfold lay
    unfold lay at ih
    rw [ih, show ((0 : Int) + (n : Int)).toNat = n by omega]
    split
    · omega
    · omega
theorem lay_conv (g f : Nat → Int) {m t : Nat} (ht : t < m) : (rgT 0 1 m).foldl (fun h x => lay x.toNat (g x.toNat) f h) (fun _ => 0) t = conv g f t := by
  rw [lay_all g f m _ m t ht, sumN_cut (k := t + 1) (fun j hj => if_neg (by omega)) (by omega)]
  unfold conv
  rw [Int.zero_add]
  exact sumN_congr fun j hj => if_pos (by omega)
/-- powers -/
def powc (g : Nat → Int) : Nat → Nat → Int
  | 0 => dlt
  | k + 1 => conv g (powc g k)
/-- bounds -/
theorem sumN_le {F G : Nat → Int} : ∀ {n : Nat}, (∀ j, j < n → F j ≤ G j) → sumN F n ≤ sumN G n
  | 0, _ => Int.le_refl _
  | n + 1, h => Int.add_le_add (sumN_le fun j hj => h j (by omega)) (h n (by omega))
theorem conv_bd {g f : Nat → Int} {A B : Int} {n : Nat} (g0 : ∀ j, 0 ≤ g j) (gA : sumN g (n + 1) ≤ A) (hB : 0 ≤ B) (hf : ∀ j, j ≤ n → 0 ≤ f j ∧ f j ≤ B) : 0 ≤ conv g f n ∧ conv g f n ≤ A * B := by
  unfold conv
  constructor
  · have := sumN_le (F := fun _ => 0) (G := fun j => g j * f (n - j)) (n := n + 1) fun j hj => Int.mul_nonneg (g0 j) (hf (n - j) (by omega)).1
    rw [sumN_zero fun _ _ => rfl] at this
    exact this
  · have h1 := sumN_le (F := fun j => g j * f (n - j)) (G := fun j => B * g j) (n := n + 1) fun j hj => by
      rw [Int.mul_comm B]
      exact Int.mul_le_mul_of_nonneg_left (hf (n - j) (by omega)).2 (g0 j)
    rw [sumN_mul] at h1
    rw [Int.mul_comm A]
    exact Int.le_trans h1 (Int.mul_le_mul_of_nonneg_left gA hB)
theorem powc_bd {g : Nat → Int} {A : Int} {N : Nat} (A1 : 1 ≤ A) (g0 : ∀ j, 0 ≤ g j) (gA : ∀ n, n < N → sumN g (n + 1) ≤ A) : ∀ (k : Nat) (n : Nat), n < N → 0 ≤ powc g k n ∧ powc g k n ≤ A ^ k
  | 0, n, _ => by
    show 0 ≤ dlt n ∧ dlt n ≤ A ^ 0
    unfold dlt
    rw [Int.pow_zero]
    split <;> omega
  | k + 1, n, h => by
    have := conv_bd (f := powc g k) (B := A ^ k) g0 (gA n h) (Int.pow_nonneg (by omega)) (fun j hj => powc_bd A1 g0 gA k j (by omega))
    rw [Int.pow_succ, Int.mul_comm]
    exact this
end
end DL
set_option Elab.async false
set_option linter.all false
set_option maxRecDepth 100000
set_option maxHeartbeats 4000000
/-! # Plain library 4: all draws gone through -/
namespace DL
open PySem PySem.Spec PyProof.Rows L2
noncomputable section
/-- f holds at lo, lo + 1, .., n of them -/
def allFrom (f : Int → Bool) (n : Nat) (lo : Int) : Bool := Nat.rec (motive := fun _ => Int → Bool) (fun _ => true) (fun _ ih lo => bif f lo then ih (lo + 1) else false) n lo
theorem allFrom_ok {f : Int → Bool} : ∀ (n : Nat) (lo : Int), allFrom f n lo = true → ∀ r, lo ≤ r → r < lo + n → f r = true
  | 0, lo, _, r, h1, h2 => absurd h1 (by omega)
  | n + 1, lo, h, r, h1, h2 => by
    have h : (bif f lo then allFrom f n (lo + 1) else false) = true := h
    cases e : f lo with
    | false => rw [e] at h; cases h
    | true =>
      rw [e] at h
      by_cases q : r = lo
      · rw [q]; exact e
      · exact allFrom_ok n (lo + 1) h r (by omega) (by omega)
/-- all ways of the draws end as Q says -/
def Dr.chk {α : Type} (Q : α → Bool) (t : Dr α) (n : Nat) : Bool :=
  Dr.rec (motive := fun _ => Nat → Bool) (fun e _ => E.rec (motive := fun _ => Bool) (fun a => Q a) (fun _ _ => false) false e)
    (fun m _ ih n => Nat.rec (motive := fun _ => Bool) false (fun n' _ => bif Int.rec (motive := fun _ => Bool) (fun k => Nat.blt 0 k && Nat.blt k 1073741824) (fun _ => false) m then allFrom (fun r => ih r n') m.toNat 0 else false) n) t n
theorem Dr.chk_ok {α : Type} {Q : α → Bool} : ∀ {t : Dr α} {n : Nat}, t.chk Q n = true → t.wp (fun a => Q a = true) n
  | .ret (.ok a), n, h => by cases n <;> exact h
  | .ret (.exc _ _), n, h => nomatch (show false = true from h)
  | .ret .bad, n, h => nomatch (show false = true from h)
  | .draw _ _, 0, h => nomatch (show false = true from h)
  | .draw m k, n + 1, h => by
    have h : (bif Int.rec (motive := fun _ => Bool) (fun k => Nat.blt 0 k && Nat.blt k 1073741824) (fun _ => false) m then allFrom (fun r => (k r).chk Q n) m.toNat 0 else false) = true := h
    cases m with
    | negSucc j => exact nomatch (show false = true from h)
    | ofNat j =>
      have h : (bif Nat.blt 0 j && Nat.blt j 1073741824 then allFrom (fun r => (k r).chk Q n) j 0 else false) = true := h
      cases e : Nat.blt 0 j && Nat.blt j 1073741824 with
      | false => rw [e] at h; cases h
      | true =>
        rw [e] at h
        rw [Bool.and_eq_true] at e
        have e1 : 0 < j := by simpa [Nat.blt_eq] using e.1
        have e2 : j < 1073741824 := by simpa [Nat.blt_eq] using e.2
        exact ⟨by show (0 : Int) < (j : Int); omega, by show (j : Int) < 1073741824; omega, fun r a b => Dr.chk_ok (allFrom_ok j 0 h r a (by rw [Int.zero_add]; exact b))⟩
/-- a block that leads on -/
def isNx {σ κ r : Type} : Fl σ κ r → Bool
  | .nx _ => true
  | _ => false
theorem isNx_ok {σ κ r : Type} {o : Fl σ κ r} (h : isNx o = true) : ∃ s, o = .nx s := by
  cases o with
  | nx s => exact ⟨s, rfl⟩
  | _ => cases h
theorem wp_nx {σ κ r : Type} {t : Dr (Fl σ κ r)} {n : Nat} (h : t.chk isNx n = true) : t.wp (fun o => ∃ s, o = .nx s) n := Dr.wp_imp (fun _ q => isNx_ok q) (Dr.chk_ok h)
end
end DL
set_option Elab.async false
set_option linter.all false
set_option maxRecDepth 100000
set_option maxHeartbeats 4000000
namespace LX
open PySem PySem.Spec PyProof.Rows L2 DL
def top (i : Nat) : Stmt := PySem.Challenge.pw_partrules_k25_tables_of_gauss.main.body.getD i (.Pass ⟨0, 0, 0, 0⟩)
abbrev s_is_whole : Stmt := top 10
abbrev s_need_between : Stmt := top 11
abbrev s_put_later : Stmt := top 15
abbrev s_gauss_rows : Stmt := top 16
abbrev s_worth_at : Stmt := top 17
abbrev s_power : Stmt := top 18
abbrev s_table_by : Stmt := top 19
abbrev s_need_table : Stmt := top 20
abbrev s_gauss_table : Stmt := top 21
abbrev s_back_item : Stmt := top 22
abbrev s_back_table : Stmt := top 23
abbrev s__law_pen : Stmt := top 25
abbrev s__law_draw : Stmt := top 26
abbrev s__law_pick : Stmt := top 27
abbrev s__law_fault : Stmt := top 28
abbrev s__law_is_fault : Stmt := top 29
abbrev s__law_gauss : Stmt := top 30
abbrev s__law_worth : Stmt := top 31
abbrev s__law_power : Stmt := top 32
abbrev s__law_product_of : Stmt := top 33
abbrev s_law : Stmt := top 34
def tab_fault : FTab := [(0, "number", ["what", "number"]), (2, "row", ["row"]), (4, "rule", ["what", "value"]), (1, "sum", ["value"]), (3, "table", ["table"]), (6, "many", ["what", "many", "limit"]), (5, "unlike", ["what"])]
structure Txt (P : Program) (w : World) (K : PySem.W.Frag) (mg : Str → Option Value) (base : Heap) (T0 : Tx) : Prop where
  hK : T0.K = K
  b_all : mg "all" = none
  b_bool : mg "bool" = none
  b_enumerate : mg "enumerate" = none
  b_int : mg "int" = none
  b_isinstance : mg "isinstance" = none
  b_len : mg "len" = none
  b_list : mg "list" = none
  b_max : mg "max" = none
  b_range : mg "range" = none
  b_repr : mg "repr" = none
  b_sum : mg "sum" = none
  b_tuple : mg "tuple" = none
  b_zip : mg "zip" = none
  c_MOST_TABLE : ∃ t, mg "MOST_TABLE" = some (.int 8 t)
  c_MOST_DIGIT : ∃ t, mg "MOST_DIGIT" = some (.int 9 t)
  g_is_whole : mg "is_whole" = some (.ref (T0.fa 0))
  k_is_whole : PySem.W.keepIn K (.ref (T0.fa 0)) = true
  f_is_whole : ∃ fd, Fun K "is_whole" "is_whole" s_is_whole (T0.fa 0) fd ∧ Binds K fd ["value"] []
  g_need_between : mg "need_between" = some (.ref (T0.fa 1))
  k_need_between : PySem.W.keepIn K (.ref (T0.fa 1)) = true
  f_need_between : ∃ fd, Fun K "need_between" "need_between" s_need_between (T0.fa 1) fd ∧ Binds K fd ["what", "number", "low", "high"] []
  g_put_later : mg "put_later" = some (.ref (T0.fa 2))
  k_put_later : PySem.W.keepIn K (.ref (T0.fa 2)) = true
  f_put_later : ∃ fd, Fun K "put_later" "put_later" s_put_later (T0.fa 2) fd ∧ Binds K fd ["one", "other", "places"] []
  g_gauss_rows : mg "gauss_rows" = some (.ref (T0.fa 3))
  k_gauss_rows : PySem.W.keepIn K (.ref (T0.fa 3)) = true
  f_gauss_rows : ∃ fd, Fun K "gauss_rows" "gauss_rows" s_gauss_rows (T0.fa 3) fd ∧ Binds K fd ["n"] []
  g_worth_at : mg "worth_at" = some (.ref (T0.fa 4))
  k_worth_at : PySem.W.keepIn K (.ref (T0.fa 4)) = true
  f_worth_at : ∃ fd, Fun K "worth_at" "worth_at" s_worth_at (T0.fa 4) fd ∧ Binds K fd ["row", "q"] []
  g_power : mg "power" = some (.ref (T0.fa 5))
  k_power : PySem.W.keepIn K (.ref (T0.fa 5)) = true
  f_power : ∃ fd, Fun K "power" "power" s_power (T0.fa 5) fd ∧ Binds K fd ["q", "many"] []
  g_table_by : mg "table_by" = some (.ref (T0.fa 6))
  k_table_by : PySem.W.keepIn K (.ref (T0.fa 6)) = true
  f_table_by : ∃ fd, Fun K "table_by" "table_by" s_table_by (T0.fa 6) fd ∧ Binds K fd ["n", "q"] []
  g_need_table : mg "need_table" = some (.ref (T0.fa 7))
  k_need_table : PySem.W.keepIn K (.ref (T0.fa 7)) = true
  f_need_table : ∃ fd, Fun K "need_table" "need_table" s_need_table (T0.fa 7) fd ∧ Binds K fd ["n", "q"] []
  g_gauss_table : mg "gauss_table" = some (.ref (T0.fa 8))
  k_gauss_table : PySem.W.keepIn K (.ref (T0.fa 8)) = true
  f_gauss_table : ∃ fd, Fun K "gauss_table" "gauss_table" s_gauss_table (T0.fa 8) fd ∧ Binds K fd ["n", "q"] []
  g_back_item : mg "back_item" = some (.ref (T0.fa 9))
  k_back_item : PySem.W.keepIn K (.ref (T0.fa 9)) = true
  f_back_item : ∃ fd, Fun K "back_item" "back_item" s_back_item (T0.fa 9) fd ∧ Binds K fd ["i", "j", "q", "item"] []
  g_back_table : mg "back_table" = some (.ref (T0.fa 10))
  k_back_table : PySem.W.keepIn K (.ref (T0.fa 10)) = true
  f_back_table : ∃ fd, Fun K "back_table" "back_table" s_back_table (T0.fa 10) fd ∧ Binds K fd ["n", "q"] []
  g__law_pen : mg "_law_pen" = some (.ref (T0.fa 11))
  k__law_pen : PySem.W.keepIn K (.ref (T0.fa 11)) = true
  f__law_pen : ∃ fd, Fun K "_law_pen" "_law_pen" s__law_pen (T0.fa 11) fd ∧ Binds K fd ["script"] []
  g__law_draw : mg "_law_draw" = some (.ref (T0.fa 12))
  k__law_draw : PySem.W.keepIn K (.ref (T0.fa 12)) = true
  f__law_draw : ∃ fd, Fun K "_law_draw" "_law_draw" s__law_draw (T0.fa 12) fd ∧ Binds K fd ["pen", "many"] []
  g__law_pick : mg "_law_pick" = some (.ref (T0.fa 13))
  k__law_pick : PySem.W.keepIn K (.ref (T0.fa 13)) = true
  f__law_pick : ∃ fd, Fun K "_law_pick" "_law_pick" s__law_pick (T0.fa 13) fd ∧ Binds K fd ["pen", "some"] []
  g__law_fault : mg "_law_fault" = some (.ref (T0.fa 14))
  k__law_fault : PySem.W.keepIn K (.ref (T0.fa 14)) = true
  f__law_fault : ∃ fd, Fun K "_law_fault" "_law_fault" s__law_fault (T0.fa 14) fd ∧ Binds K fd ["work"] []
  g__law_is_fault : mg "_law_is_fault" = some (.ref (T0.fa 15))
  k__law_is_fault : PySem.W.keepIn K (.ref (T0.fa 15)) = true
  f__law_is_fault : ∃ fd, Fun K "_law_is_fault" "_law_is_fault" s__law_is_fault (T0.fa 15) fd ∧ Binds K fd ["work", "due"] []
  g__law_gauss : mg "_law_gauss" = some (.ref (T0.fa 16))
  k__law_gauss : PySem.W.keepIn K (.ref (T0.fa 16)) = true
  f__law_gauss : ∃ fd, Fun K "_law_gauss" "_law_gauss" s__law_gauss (T0.fa 16) fd ∧ Binds K fd ["n", "k"] []
  g__law_worth : mg "_law_worth" = some (.ref (T0.fa 17))
  k__law_worth : PySem.W.keepIn K (.ref (T0.fa 17)) = true
  f__law_worth : ∃ fd, Fun K "_law_worth" "_law_worth" s__law_worth (T0.fa 17) fd ∧ Binds K fd ["row", "q"] []
  g__law_power : mg "_law_power" = some (.ref (T0.fa 18))
  k__law_power : PySem.W.keepIn K (.ref (T0.fa 18)) = true
  f__law_power : ∃ fd, Fun K "_law_power" "_law_power" s__law_power (T0.fa 18) fd ∧ Binds K fd ["q", "many"] []
  g__law_product_of : mg "_law_product_of" = some (.ref (T0.fa 19))
  k__law_product_of : PySem.W.keepIn K (.ref (T0.fa 19)) = true
  f__law_product_of : ∃ fd, Fun K "_law_product_of" "_law_product_of" s__law_product_of (T0.fa 19) fd ∧ Binds K fd ["one", "two"] []
  g_law : mg "law" = some (.ref (T0.fa 20))
  k_law : PySem.W.keepIn K (.ref (T0.fa 20)) = true
  f_law : ∃ fd, Fun K "law" "law" s_law (T0.fa 20) fd ∧ Binds K fd ["script"] []
  e_BadNumber : ErrOk P w K mg base (T0.ca 0) "BadNumber" (["what", "number"] : List Str)
  cf_BadNumber : T0.cf 0 = (["what", "number"] : List Str).reverse
  e_BadSum : ErrOk P w K mg base (T0.ca 1) "BadSum" (["value"] : List Str)
  cf_BadSum : T0.cf 1 = (["value"] : List Str).reverse
  e_BadRow : ErrOk P w K mg base (T0.ca 2) "BadRow" (["row"] : List Str)
  cf_BadRow : T0.cf 2 = (["row"] : List Str).reverse
  e_BadTable : ErrOk P w K mg base (T0.ca 3) "BadTable" (["table"] : List Str)
  cf_BadTable : T0.cf 3 = (["table"] : List Str).reverse
  e_BadRule : ErrOk P w K mg base (T0.ca 4) "BadRule" (["what", "value"] : List Str)
  cf_BadRule : T0.cf 4 = (["what", "value"] : List Str).reverse
  e_Unlike : ErrOk P w K mg base (T0.ca 5) "Unlike" (["what"] : List Str)
  cf_Unlike : T0.cf 5 = (["what"] : List Str).reverse
  e_TooMany : ErrOk P w K mg base (T0.ca 6) "TooMany" (["what", "many", "limit"] : List Str)
  cf_TooMany : T0.cf 6 = (["what", "many", "limit"] : List Str).reverse
  kl : T0.kl = 7
  cft : ∀ t ∈ tab_fault, T0.cf t.1 = t.2.2.reverse
  exm : ∀ c ∈ tab_fault.map (·.1), ∀ j ∈ tab_fault.map (·.1), PySem.W.exmOne K (.ref (T0.ca c)) (.ref (T0.ca j)) = some (decide (c = j))
  gc_BadNumber : mg "BadNumber" = some (.ref (T0.ca 0))
  x_BadNumber : XfC K (T0.ca 0)
  xn_BadNumber_what : PySem.W.findIn K (.ref (T0.ca 0)) "what" = some none
  xn_BadNumber_number : PySem.W.findIn K (.ref (T0.ca 0)) "number" = some none
  gc_BadSum : mg "BadSum" = some (.ref (T0.ca 1))
  x_BadSum : XfC K (T0.ca 1)
  xn_BadSum_value : PySem.W.findIn K (.ref (T0.ca 1)) "value" = some none
  gc_BadRow : mg "BadRow" = some (.ref (T0.ca 2))
  x_BadRow : XfC K (T0.ca 2)
  xn_BadRow_row : PySem.W.findIn K (.ref (T0.ca 2)) "row" = some none
  gc_BadTable : mg "BadTable" = some (.ref (T0.ca 3))
  x_BadTable : XfC K (T0.ca 3)
  xn_BadTable_table : PySem.W.findIn K (.ref (T0.ca 3)) "table" = some none
  gc_BadRule : mg "BadRule" = some (.ref (T0.ca 4))
  x_BadRule : XfC K (T0.ca 4)
  xn_BadRule_what : PySem.W.findIn K (.ref (T0.ca 4)) "what" = some none
  xn_BadRule_value : PySem.W.findIn K (.ref (T0.ca 4)) "value" = some none
  gc_Unlike : mg "Unlike" = some (.ref (T0.ca 5))
  x_Unlike : XfC K (T0.ca 5)
  xn_Unlike_what : PySem.W.findIn K (.ref (T0.ca 5)) "what" = some none
  gc_TooMany : mg "TooMany" = some (.ref (T0.ca 6))
  x_TooMany : XfC K (T0.ca 6)
  xn_TooMany_what : PySem.W.findIn K (.ref (T0.ca 6)) "what" = some none
  xn_TooMany_many : PySem.W.findIn K (.ref (T0.ca 6)) "many" = some none
  xn_TooMany_limit : PySem.W.findIn K (.ref (T0.ca 6)) "limit" = some none
section
variable {P : Program} {w : World} {K : PySem.W.Frag} {mg : Str → Option Value} {base : Heap} {T0 : Tx}
def m_is_whole : SM :=
  sRet (eAnd (eCB biIsi (aCons (eVar 0) (aCons (eC (.ty "int")) (aNil)))) (eNot (eCB biIsi (aCons (eVar 0) (aCons (eC (.ty "bool")) (aNil))))))
abbrev fm_is_whole : FM := runF 1 1 m_is_whole
theorem sc_is_whole : FnScope ["value"] ["value"] (defScope s_is_whole) := ⟨rfl, rfl, rfl, by decide +kernel, rfl, by decide +kernel, by decide +kernel⟩
theorem f_is_whole (G : Txt P w K mg base T0) : FnG P w K mg base 3 (T0.fa 0) (spD P w K mg base T0 fun th => fm_is_whole) := by
  obtain ⟨fd, F, bd⟩ := G.f_is_whole
  have S := sc_is_whole
  refine fnD (k := 2) (m := fun _ => m_is_whole) G.hK F S bd fun cdv A out s H E T th h => ?_
  unfold m_is_whole
  exact ds_one (ds_ret (de_and h.hK (de_bi (id := "isinstance") (bi_isi h.hK) rfl G.b_isinstance (by decide +kernel) (da_cons (de_var (i := 0)) (da_cons (de_tyn (id := "int") rfl G.b_int (by decide +kernel)) (da_nil)))) (de_one (de_not h.hK (de_bi (id := "isinstance") (bi_isi h.hK) rfl G.b_isinstance (by decide +kernel) (da_cons (de_var (i := 0)) (da_cons (de_tyn (id := "bool") rfl G.b_bool (by decide +kernel)) (da_nil))))))))
def m_need_between : SM :=
  sSeq (sIf (eNot (eCall (fm_is_whole) (aCons (eVar 1) (aNil)))) (sRaise 0 2 (aCons (eVar 0) (aCons (eVar 1) (aNil)))) (sPass)) (sIf (eOr (eAnd (eOp opIsnN (eVar 2) (eC .non)) (eOp opLt (eVar 1) (eVar 2))) (eAnd (eOp opIsnN (eVar 3) (eC .non)) (eOp opGt (eVar 1) (eVar 3)))) (sRaise 0 2 (aCons (eVar 0) (aCons (eVar 1) (aNil)))) (sPass))
abbrev fm_need_between : FM := runF 4 4 m_need_between
theorem sc_need_between : FnScope ["what", "number", "low", "high"] ["what", "number", "low", "high"] (defScope s_need_between) := ⟨rfl, rfl, rfl, by decide +kernel, rfl, by decide +kernel, by decide +kernel⟩
theorem f_need_between (G : Txt P w K mg base T0) (F_is_whole : FnG P w K mg base 3 (T0.fa 0) (spD P w K mg base T0 fun th => fm_is_whole)) : FnG P w K mg base 4 (T0.fa 1) (spD P w K mg base T0 fun th => fm_need_between) := by
  obtain ⟨fd, F, bd⟩ := G.f_need_between
  have S := sc_need_between
  refine fnD (k := 3) (m := fun _ => m_need_between) G.hK F S bd fun cdv A out s H E T th h => ?_
  unfold m_need_between
  exact ds_cons (ds_if (dt_not (dt_of h.hK (de_call h F_is_whole (by decide) rfl G.g_is_whole G.k_is_whole (da_cons (de_var (i := 1)) (da_nil))))) (ds_one (ds_raise h (by decide) (by rw [h.tk.c]; exact G.e_BadNumber) (by rw [h.tk.n]; exact G.cf_BadNumber) rfl (by decide) rfl (da_cons (de_var (i := 0)) (da_cons (de_var (i := 1)) (da_nil))))) (ds_nil)) (ds_one (ds_if (dt_w (dw_or (dt_w (dw_and (dt_cmpD (cd_isn) (de_var (i := 2)) (de_non) nob) (dw_and1 (dt_cmpD (cd_lt h.hK h.hu) (de_var (i := 1)) (de_var (i := 2)) nob)))) (dw_or1 (dt_w (dw_and (dt_cmpD (cd_isn) (de_var (i := 3)) (de_non) nob) (dw_and1 (dt_cmpD (cd_gt) (de_var (i := 1)) (de_var (i := 3)) nob))))))) (ds_one (ds_raise h (by decide) (by rw [h.tk.c]; exact G.e_BadNumber) (by rw [h.tk.n]; exact G.cf_BadNumber) rfl (by decide) rfl (da_cons (de_var (i := 0)) (da_cons (de_var (i := 1)) (da_nil))))) (ds_nil)))
def m_put_later : SM :=
  sSeq (sAsg 3 (eCB biMax2 (aCons (eCB biLen (aCons (eVar 0) (aNil))) (aCons (eOp opAdd (eCB biLen (aCons (eVar 1) (aNil))) (eVar 2)) (aNil))))) (sSeq (sAsg 4 (eOp opAdd (eCB biList (aCons (eVar 0) (aNil))) (eOp opMul (eLst (aCons (eC (.int 0)) (aNil))) (eOp opSub (eVar 3) (eCB biLen (aCons (eVar 0) (aNil))))))) (sSeq (sAsg 5 (eOp opAdd (eOp opAdd (eOp opMul (eLst (aCons (eC (.int 0)) (aNil))) (eVar 2)) (eCB biList (aCons (eVar 1) (aNil)))) (eOp opMul (eLst (aCons (eC (.int 0)) (aNil))) (eOp opSub (eOp opSub (eVar 3) (eVar 2)) (eCB biLen (aCons (eVar 1) (aNil))))))) (sRet (eLc 0 [6, 7] (iR opZip (aCons (eVar 4) (aCons (eVar 5) (aNil)))) (tmT2 2 (tmCons (tmN 6) (tmCons (tmN 7) (tmNil)))) (eC (.bl true)) (eOp opAdd (eVar 6) (eVar 7))))))
abbrev fm_put_later : FM := runF 3 8 m_put_later
theorem sc_put_later : FnScope ["one", "other", "places", "wide", "first", "second", "a", "b"] ["one", "other", "places"] (defScope s_put_later) := ⟨rfl, rfl, rfl, by decide +kernel, rfl, by decide +kernel, by decide +kernel⟩
theorem f_put_later (G : Txt P w K mg base T0) : FnG P w K mg base 3 (T0.fa 2) (spD P w K mg base T0 fun th => fm_put_later) := by
  obtain ⟨fd, F, bd⟩ := G.f_put_later
  have S := sc_put_later
  refine fnD (k := 2) (m := fun _ => m_put_later) G.hK F S bd fun cdv A out s H E T th h => ?_
  unfold m_put_later
  exact ds_cons (ds_asg (i := 3) S.nd rfl (by first | exact .inl rfl | exact .inr rfl) (de_bi (id := "max") (bi_max2 h.c) rfl G.b_max (by decide +kernel) (da_cons (de_bi (id := "len") (bi_len h.hK) rfl G.b_len (by decide +kernel) (da_cons (de_var (i := 0)) (da_nil))) (da_cons (de_add h.hK (de_bi (id := "len") (bi_len h.hK) rfl G.b_len (by decide +kernel) (da_cons (de_var (i := 1)) (da_nil))) (de_var (i := 2))) (da_nil))))) (ds_cons (ds_asg (i := 4) S.nd rfl (by first | exact .inl rfl | exact .inr rfl) (de_add h.hK (de_ty (id := "list") (bi_list h.hK) rfl G.b_list (by decide +kernel) (da_cons (de_var (i := 0)) (da_nil))) (de_mul h.hK (de_lst (da_cons (de_int) (da_nil))) (de_sub (de_var (i := 3)) (de_bi (id := "len") (bi_len h.hK) rfl G.b_len (by decide +kernel) (da_cons (de_var (i := 0)) (da_nil))))))) (ds_cons (ds_asg (i := 5) S.nd rfl (by first | exact .inl rfl | exact .inr rfl) (de_add h.hK (de_add h.hK (de_mul h.hK (de_lst (da_cons (de_int) (da_nil))) (de_var (i := 2))) (de_ty (id := "list") (bi_list h.hK) rfl G.b_list (by decide +kernel) (da_cons (de_var (i := 1)) (da_nil)))) (de_mul h.hK (de_lst (da_cons (de_int) (da_nil))) (de_sub (de_sub (de_var (i := 3)) (de_var (i := 2))) (de_bi (id := "len") (bi_len h.hK) rfl G.b_len (by decide +kernel) (da_cons (de_var (i := 1)) (da_nil))))))) (ds_one (ds_ret (de_lc (own := [("a", 6), ("b", 7)]) 0 h.c S.nd (di_zip h.hK (da_cons (de_var (i := 4)) (da_cons (de_var (i := 5)) (da_nil))) rfl G.b_zip) (blkD (N0 := ["one", "other", "places", "wide", "first", "second", "a", "b"]) (s0 := defScope s_put_later) rfl rfl ⟨rfl, by decide +kernel, by decide +kernel, by decide +kernel, by decide +kernel⟩) (fun s1 H1 C1 l1 p1 => dg_tup2 (n := 2) h.c h.hK (dgs_cons (dg_name (i := 6) S.nd rfl (by first | exact .inl rfl | exact .inr rfl)) (dgs_cons (dg_name (i := 7) S.nd rfl (by first | exact .inl rfl | exact .inr rfl)) (dgs_nil)))) (fun s1 H1 C1 l1 p1 => dts_nil) (fun s1 H1 C1 l1 p1 => de_add h.hK (de_var (i := 6)) (de_var (i := 7))))))))
def m_gauss_rows : SM :=
  sSeq (sAsg 1 (eLst (aCons (eLst (aCons (eC (.int 1)) (aNil))) (aNil)))) (sSeq (sFor (iR opRng2 (aCons (eC (.int 1)) (aCons (eOp opAdd (eVar 0) (eC (.int 1))) (aNil)))) (tmN 2) (sSeq (sAsg 3 (eLst (aCons (eLst (aCons (eC (.int 1)) (aNil))) (aNil)))) (sSeq (sFor (iR opRng2 (aCons (eC (.int 1)) (aCons (eVar 2) (aNil)))) (tmN 4) (sApp (plVar 3) (eCall (fm_put_later) (aCons (eOp opIdx (eVar 1) (eOp opSub (eVar 4) (eC (.int 1)))) (aCons (eOp opIdx (eVar 1) (eVar 4)) (aCons (eVar 4) (aNil))))))) (sAsg 1 (eOp opAdd (eVar 3) (eLst (aCons (eLst (aCons (eC (.int 1)) (aNil))) (aNil)))))))) (sRetV 1))
abbrev fm_gauss_rows : FM := runF 1 5 m_gauss_rows
theorem sc_gauss_rows : FnScope ["n", "rows", "many", "fresh", "k"] ["n"] (defScope s_gauss_rows) := ⟨rfl, rfl, rfl, by decide +kernel, rfl, by decide +kernel, by decide +kernel⟩
theorem f_gauss_rows (G : Txt P w K mg base T0) (F_put_later : FnG P w K mg base 3 (T0.fa 2) (spD P w K mg base T0 fun th => fm_put_later)) : FnG P w K mg base 4 (T0.fa 3) (spD P w K mg base T0 fun th => fm_gauss_rows) := by
  obtain ⟨fd, F, bd⟩ := G.f_gauss_rows
  have S := sc_gauss_rows
  refine fnD (k := 3) (m := fun _ => m_gauss_rows) G.hK F S bd fun cdv A out s H E T th h => ?_
  unfold m_gauss_rows
  exact ds_cons (ds_asg (i := 1) S.nd rfl (by first | exact .inl rfl | exact .inr rfl) (de_lst (da_cons (de_lst (da_cons (de_int) (da_nil))) (da_nil)))) (ds_cons (ds_for h.po h.c (di_rng2 (da_cons (de_int) (da_cons (de_add h.hK (de_var (i := 0)) (de_int)) (da_nil))) rfl G.b_range) (dg_name (i := 2) S.nd rfl (by first | exact .inl rfl | exact .inr rfl)) (ds_cons (ds_asg (i := 3) S.nd rfl (by first | exact .inl rfl | exact .inr rfl) (de_lst (da_cons (de_lst (da_cons (de_int) (da_nil))) (da_nil)))) (ds_cons (ds_for h.po h.c (di_rng2 (da_cons (de_int) (da_cons (de_var (i := 2)) (da_nil))) rfl G.b_range) (dg_name (i := 4) S.nd rfl (by first | exact .inl rfl | exact .inr rfl)) (ds_one (ds_append (dp_var (i := 3)) (de_call h F_put_later (by decide) rfl G.g_put_later G.k_put_later (da_cons (de_idx h.hK (de_var (i := 1)) (de_sub (de_var (i := 4)) (de_int))) (da_cons (de_idx h.hK (de_var (i := 1)) (de_var (i := 4))) (da_cons (de_var (i := 4)) (da_nil)))))))) (ds_one (ds_asg (i := 1) S.nd rfl (by first | exact .inl rfl | exact .inr rfl) (de_add h.hK (de_var (i := 3)) (de_lst (da_cons (de_lst (da_cons (de_int) (da_nil))) (da_nil))))))))) (ds_one (ds_retV (i := 1))))
def m_worth_at : SM :=
  sSeq (sAsg 2 (eC (.int 0))) (sSeq (sFor (iX (eUn opRev (eVar 0))) (tmN 3) (sAsg 2 (eOp opAdd (eOp opMul (eVar 2) (eVar 1)) (eVar 3)))) (sRetV 2))
abbrev fm_worth_at : FM := runF 2 4 m_worth_at
theorem sc_worth_at : FnScope ["row", "q", "out", "item"] ["row", "q"] (defScope s_worth_at) := ⟨rfl, rfl, rfl, by decide +kernel, rfl, by decide +kernel, by decide +kernel⟩
theorem f_worth_at (G : Txt P w K mg base T0) : FnG P w K mg base 3 (T0.fa 4) (spD P w K mg base T0 fun th => fm_worth_at) := by
  obtain ⟨fd, F, bd⟩ := G.f_worth_at
  have S := sc_worth_at
  refine fnD (k := 2) (m := fun _ => m_worth_at) G.hK F S bd fun cdv A out s H E T th h => ?_
  unfold m_worth_at
  exact ds_cons (ds_asg (i := 2) S.nd rfl (by first | exact .inl rfl | exact .inr rfl) (de_int)) (ds_cons (ds_for h.po h.c (di_seq h.hK (de_rev h.hK (de_var (i := 0)))) (dg_name (i := 3) S.nd rfl (by first | exact .inl rfl | exact .inr rfl)) (ds_one (ds_asg (i := 2) S.nd rfl (by first | exact .inl rfl | exact .inr rfl) (de_add h.hK (de_mul h.hK (de_var (i := 2)) (de_var (i := 1))) (de_var (i := 3)))))) (ds_one (ds_retV (i := 2))))
def m_power : SM :=
  sSeq (sAsg 2 (eC (.int 1))) (sSeq (sFor (iR opRng1 (aCons (eVar 1) (aNil))) (tmN 3) (sAsg 2 (eOp opMul (eVar 2) (eVar 0)))) (sRetV 2))
abbrev fm_power : FM := runF 2 4 m_power
theorem sc_power : FnScope ["q", "many", "out", "turn"] ["q", "many"] (defScope s_power) := ⟨rfl, rfl, rfl, by decide +kernel, rfl, by decide +kernel, by decide +kernel⟩
theorem f_power (G : Txt P w K mg base T0) : FnG P w K mg base 3 (T0.fa 5) (spD P w K mg base T0 fun th => fm_power) := by
  obtain ⟨fd, F, bd⟩ := G.f_power
  have S := sc_power
  refine fnD (k := 2) (m := fun _ => m_power) G.hK F S bd fun cdv A out s H E T th h => ?_
  unfold m_power
  exact ds_cons (ds_asg (i := 2) S.nd rfl (by first | exact .inl rfl | exact .inr rfl) (de_int)) (ds_cons (ds_for h.po h.c (di_rng1 (da_cons (de_var (i := 1)) (da_nil)) rfl G.b_range) (dg_name (i := 3) S.nd rfl (by first | exact .inl rfl | exact .inr rfl)) (ds_one (ds_asg (i := 2) S.nd rfl (by first | exact .inl rfl | exact .inr rfl) (de_mul h.hK (de_var (i := 2)) (de_var (i := 0)))))) (ds_one (ds_retV (i := 2))))
def m_table_by : SM :=
  sSeq (sAsg 2 (eLst (aNil))) (sSeq (sFor (iR opRng1 (aCons (eOp opAdd (eVar 0) (eC (.int 1))) (aNil))) (tmN 3) (sSeq (sAsg 4 (eCall (fm_gauss_rows) (aCons (eVar 3) (aNil)))) (sApp (plVar 2) (eCB biTuple (aCons (eLc 0 [5] (iR opRng1 (aCons (eOp opAdd (eVar 0) (eC (.int 1))) (aNil))) (tmN 5) (eC (.bl true)) (eIf (eOp opLe (eVar 5) (eVar 3)) (eCall (fm_worth_at) (aCons (eOp opIdx (eVar 4) (eVar 5)) (aCons (eVar 1) (aNil)))) (eC (.int 0)))) (aNil)))))) (sRet (eCB biTuple (aCons (eVar 2) (aNil)))))
abbrev fm_table_by : FM := runF 2 6 m_table_by
theorem sc_table_by : FnScope ["n", "q", "out", "i", "rows", "j"] ["n", "q"] (defScope s_table_by) := ⟨rfl, rfl, rfl, by decide +kernel, rfl, by decide +kernel, by decide +kernel⟩
theorem f_table_by (G : Txt P w K mg base T0) (F_gauss_rows : FnG P w K mg base 4 (T0.fa 3) (spD P w K mg base T0 fun th => fm_gauss_rows)) (F_worth_at : FnG P w K mg base 3 (T0.fa 4) (spD P w K mg base T0 fun th => fm_worth_at)) : FnG P w K mg base 5 (T0.fa 6) (spD P w K mg base T0 fun th => fm_table_by) := by
  obtain ⟨fd, F, bd⟩ := G.f_table_by
  have S := sc_table_by
  refine fnD (k := 4) (m := fun _ => m_table_by) G.hK F S bd fun cdv A out s H E T th h => ?_
  unfold m_table_by
  exact ds_cons (ds_asg (i := 2) S.nd rfl (by first | exact .inl rfl | exact .inr rfl) (de_lst (da_nil))) (ds_cons (ds_for h.po h.c (di_rng1 (da_cons (de_add h.hK (de_var (i := 0)) (de_int)) (da_nil)) rfl G.b_range) (dg_name (i := 3) S.nd rfl (by first | exact .inl rfl | exact .inr rfl)) (ds_cons (ds_asg (i := 4) S.nd rfl (by first | exact .inl rfl | exact .inr rfl) (de_call h F_gauss_rows (by decide) rfl G.g_gauss_rows G.k_gauss_rows (da_cons (de_var (i := 3)) (da_nil)))) (ds_one (ds_append (dp_var (i := 2)) (de_ty (id := "tuple") (bi_tuple h.hK) rfl G.b_tuple (by decide +kernel) (da_cons (de_lc (own := [("j", 5)]) 0 h.c S.nd (di_rng1 (da_cons (de_add h.hK (de_var (i := 0)) (de_int)) (da_nil)) rfl G.b_range) (blkD (N0 := ["n", "q", "out", "i", "rows", "j"]) (s0 := defScope s_table_by) rfl rfl ⟨rfl, by decide +kernel, by decide +kernel, by decide +kernel, by decide +kernel⟩) (fun s1 H1 C1 l1 p1 => dg_name (i := 5) S.nd rfl (by first | exact .inl rfl | exact .inr rfl)) (fun s1 H1 C1 l1 p1 => dts_nil) (fun s1 H1 C1 l1 p1 => de_if (dt_cmpD (cd_le) (de_var (i := 5)) (de_var (i := 3)) nob) (de_call (h.blk s1 H1 _ _ p1) F_worth_at (by decide) rfl G.g_worth_at G.k_worth_at (da_cons (de_idx h.hK (de_var (i := 4)) (de_var (i := 5))) (da_cons (de_var (i := 1)) (da_nil)))) (de_int))) (da_nil))))))) (ds_one (ds_ret (de_ty (id := "tuple") (bi_tuple h.hK) rfl G.b_tuple (by decide +kernel) (da_cons (de_var (i := 2)) (da_nil))))))
def m_need_table : SM :=
  sSeq (sDrop (eCall (fm_need_between) (aCons (eC (.str "n")) (aCons (eVar 0) (aCons (eC (.int 0)) (aCons (eC (.int 8)) (aNil))))))) (sDrop (eCall (fm_need_between) (aCons (eC (.str "q")) (aCons (eVar 1) (aCons (eC (.int 0)) (aCons (eC (.int 9)) (aNil)))))))
abbrev fm_need_table : FM := runF 2 2 m_need_table
theorem sc_need_table : FnScope ["n", "q"] ["n", "q"] (defScope s_need_table) := ⟨rfl, rfl, rfl, by decide +kernel, rfl, by decide +kernel, by decide +kernel⟩
theorem f_need_table (G : Txt P w K mg base T0) (F_need_between : FnG P w K mg base 4 (T0.fa 1) (spD P w K mg base T0 fun th => fm_need_between)) : FnG P w K mg base 5 (T0.fa 7) (spD P w K mg base T0 fun th => fm_need_table) := by
  obtain ⟨fd, F, bd⟩ := G.f_need_table
  have S := sc_need_table
  refine fnD (k := 4) (m := fun _ => m_need_table) G.hK F S bd fun cdv A out s H E T th h => ?_
  unfold m_need_table
  exact ds_cons (ds_drop (de_call h F_need_between (by decide) rfl G.g_need_between G.k_need_between (da_cons (de_str) (da_cons (de_var (i := 0)) (da_cons (de_int) (da_cons (de_globI (Classical.choose_spec G.c_MOST_TABLE) rfl) (da_nil))))))) (ds_one (ds_drop (de_call h F_need_between (by decide) rfl G.g_need_between G.k_need_between (da_cons (de_str) (da_cons (de_var (i := 1)) (da_cons (de_int) (da_cons (de_globI (Classical.choose_spec G.c_MOST_DIGIT) rfl) (da_nil))))))))
def m_gauss_table : SM :=
  sSeq (sDrop (eCall (fm_need_table) (aCons (eVar 0) (aCons (eVar 1) (aNil))))) (sRet (eCall (fm_table_by) (aCons (eVar 0) (aCons (eVar 1) (aNil)))))
abbrev fm_gauss_table : FM := runF 2 2 m_gauss_table
theorem sc_gauss_table : FnScope ["n", "q"] ["n", "q"] (defScope s_gauss_table) := ⟨rfl, rfl, rfl, by decide +kernel, rfl, by decide +kernel, by decide +kernel⟩
theorem f_gauss_table (G : Txt P w K mg base T0) (F_need_table : FnG P w K mg base 5 (T0.fa 7) (spD P w K mg base T0 fun th => fm_need_table)) (F_table_by : FnG P w K mg base 5 (T0.fa 6) (spD P w K mg base T0 fun th => fm_table_by)) : FnG P w K mg base 6 (T0.fa 8) (spD P w K mg base T0 fun th => fm_gauss_table) := by
  obtain ⟨fd, F, bd⟩ := G.f_gauss_table
  have S := sc_gauss_table
  refine fnD (k := 5) (m := fun _ => m_gauss_table) G.hK F S bd fun cdv A out s H E T th h => ?_
  unfold m_gauss_table
  exact ds_cons (ds_drop (de_call h F_need_table (by decide) rfl G.g_need_table G.k_need_table (da_cons (de_var (i := 0)) (da_cons (de_var (i := 1)) (da_nil))))) (ds_one (ds_ret (de_call h F_table_by (by decide) rfl G.g_table_by G.k_table_by (da_cons (de_var (i := 0)) (da_cons (de_var (i := 1)) (da_nil))))))
def m_back_item : SM :=
  sSeq (sAsg 4 (eOp opSub (eVar 0) (eVar 1))) (sSeq (sIf (eOp opLt (eVar 4) (eC (.int 0))) (sRet (eC (.int 0))) (sPass)) (sSeq (sAsg 5 (eIf (eOp opEq (eOp opMod (eVar 4) (eC (.int 2))) (eC (.int 0))) (eC (.int 1)) (eUn opNeg (eC (.int 1))))) (sRet (eOp opMul (eOp opMul (eVar 5) (eCall (fm_power) (aCons (eVar 2) (aCons (eOp opFdiv (eOp opMul (eVar 4) (eOp opSub (eVar 4) (eC (.int 1)))) (eC (.int 2))) (aNil))))) (eVar 3)))))
abbrev fm_back_item : FM := runF 4 6 m_back_item
theorem sc_back_item : FnScope ["i", "j", "q", "item", "gap", "sign"] ["i", "j", "q", "item"] (defScope s_back_item) := ⟨rfl, rfl, rfl, by decide +kernel, rfl, by decide +kernel, by decide +kernel⟩
theorem f_back_item (G : Txt P w K mg base T0) (F_power : FnG P w K mg base 3 (T0.fa 5) (spD P w K mg base T0 fun th => fm_power)) : FnG P w K mg base 4 (T0.fa 9) (spD P w K mg base T0 fun th => fm_back_item) := by
  obtain ⟨fd, F, bd⟩ := G.f_back_item
  have S := sc_back_item
  refine fnD (k := 3) (m := fun _ => m_back_item) G.hK F S bd fun cdv A out s H E T th h => ?_
  unfold m_back_item
  exact ds_cons (ds_asg (i := 4) S.nd rfl (by first | exact .inl rfl | exact .inr rfl) (de_sub (de_var (i := 0)) (de_var (i := 1)))) (ds_cons (ds_if (dt_cmpD (cd_lt h.hK h.hu) (de_var (i := 4)) (de_int) nob) (ds_one (ds_ret (de_int))) (ds_nil)) (ds_cons (ds_asg (i := 5) S.nd rfl (by first | exact .inl rfl | exact .inr rfl) (de_if (dt_cmpD (cd_eq h.hK h.hu) (de_mod (de_var (i := 4)) (de_int)) (de_int) nob) (de_int) (de_neg (de_int)))) (ds_one (ds_ret (de_mul h.hK (de_mul h.hK (de_var (i := 5)) (de_call h F_power (by decide) rfl G.g_power G.k_power (da_cons (de_var (i := 2)) (da_cons (de_fdiv (de_mul h.hK (de_var (i := 4)) (de_sub (de_var (i := 4)) (de_int))) (de_int)) (da_nil))))) (de_var (i := 3)))))))
def m_back_table : SM :=
  sSeq (sDrop (eCall (fm_need_table) (aCons (eVar 0) (aCons (eVar 1) (aNil))))) (sSeq (sAsg 2 (eCall (fm_table_by) (aCons (eVar 0) (aCons (eVar 1) (aNil))))) (sRet (eCB biTuple (aCons (eLc 0 [4] (iR opRng1 (aCons (eOp opAdd (eVar 0) (eC (.int 1))) (aNil))) (tmN 4) (eC (.bl true)) (eCB biTuple (aCons (eLc 0 [3] (iR opRng1 (aCons (eOp opAdd (eVar 0) (eC (.int 1))) (aNil))) (tmN 3) (eC (.bl true)) (eCall (fm_back_item) (aCons (eVar 4) (aCons (eVar 3) (aCons (eVar 1) (aCons (eOp opIdx (eOp opIdx (eVar 2) (eVar 4)) (eVar 3)) (aNil))))))) (aNil)))) (aNil)))))
abbrev fm_back_table : FM := runF 2 5 m_back_table
theorem sc_back_table : FnScope ["n", "q", "table", "j", "i"] ["n", "q"] (defScope s_back_table) := ⟨rfl, rfl, rfl, by decide +kernel, rfl, by decide +kernel, by decide +kernel⟩
theorem f_back_table (G : Txt P w K mg base T0) (F_need_table : FnG P w K mg base 5 (T0.fa 7) (spD P w K mg base T0 fun th => fm_need_table)) (F_table_by : FnG P w K mg base 5 (T0.fa 6) (spD P w K mg base T0 fun th => fm_table_by)) (F_back_item : FnG P w K mg base 4 (T0.fa 9) (spD P w K mg base T0 fun th => fm_back_item)) : FnG P w K mg base 6 (T0.fa 10) (spD P w K mg base T0 fun th => fm_back_table) := by
  obtain ⟨fd, F, bd⟩ := G.f_back_table
  have S := sc_back_table
  refine fnD (k := 5) (m := fun _ => m_back_table) G.hK F S bd fun cdv A out s H E T th h => ?_
  unfold m_back_table
  exact ds_cons (ds_drop (de_call h F_need_table (by decide) rfl G.g_need_table G.k_need_table (da_cons (de_var (i := 0)) (da_cons (de_var (i := 1)) (da_nil))))) (ds_cons (ds_asg (i := 2) S.nd rfl (by first | exact .inl rfl | exact .inr rfl) (de_call h F_table_by (by decide) rfl G.g_table_by G.k_table_by (da_cons (de_var (i := 0)) (da_cons (de_var (i := 1)) (da_nil))))) (ds_one (ds_ret (de_ty (id := "tuple") (bi_tuple h.hK) rfl G.b_tuple (by decide +kernel) (da_cons (de_lc (own := [("i", 4)]) 0 h.c S.nd (di_rng1 (da_cons (de_add h.hK (de_var (i := 0)) (de_int)) (da_nil)) rfl G.b_range) (blkD (N0 := ["n", "q", "table", "j", "i"]) (s0 := defScope s_back_table) rfl rfl ⟨rfl, by decide +kernel, by decide +kernel, by decide +kernel, by decide +kernel⟩) (fun s1 H1 C1 l1 p1 => dg_name (i := 4) S.nd rfl (by first | exact .inl rfl | exact .inr rfl)) (fun s1 H1 C1 l1 p1 => dts_nil) (fun s1 H1 C1 l1 p1 => de_ty (id := "tuple") (bi_tuple h.hK) rfl G.b_tuple (by decide +kernel) (da_cons (de_lc (own := [("j", 3)]) 0 h.c S.nd (di_rng1 (da_cons (de_add h.hK (de_var (i := 0)) (de_int)) (da_nil)) rfl G.b_range) (blkD rfl rfl ⟨rfl, of_decide_eq_true (by kernel_rfl), of_decide_eq_true (by kernel_rfl), of_decide_eq_true (by kernel_rfl), of_decide_eq_true (by kernel_rfl)⟩) (fun s2 H2 C2 l2 p2 => dg_name (i := 3) S.nd rfl (by first | exact .inl rfl | exact .inr rfl)) (fun s2 H2 C2 l2 p2 => dts_nil) (fun s2 H2 C2 l2 p2 => de_call ((h.blk s1 H1 _ _ p1).blk s2 H2 _ _ p2) F_back_item (by decide) rfl G.g_back_item G.k_back_item (da_cons (de_var (i := 4)) (da_cons (de_var (i := 3)) (da_cons (de_var (i := 1)) (da_cons (de_idx h.hK (de_idx h.hK (de_var (i := 2)) (de_var (i := 4))) (de_var (i := 3))) (da_nil))))))) (da_nil)))) (da_nil))))))
def m__law_draw : SM :=
  sSeq (sPenSet 0 (fun q n => { q with count := n }) (eOp opAdd (ePenI 0 Pen.count) (eC (.int 1)))) (sSeq (sIf (eAnd (eOp opEq (ePenI 0 Pen.digits) (eC (.int 0))) (eOp opLt (ePenI 0 Pen.at_) (ePenLen 0))) (sSeq (sAsg 2 (ePenCell 0 (ePenI 0 Pen.at_))) (sSeq (sPenSet 0 (fun q n => { q with at_ := n }) (eOp opAdd (ePenI 0 Pen.at_) (eC (.int 1)))) (sIf (eOp opGe (eVar 2) (eOp opPow (eC (.int 10)) (eC (.int 18)))) (sPenSet 0 (fun q n => { q with digits := n }) (eOp opSub (eVar 2) (eOp opPow (eC (.int 10)) (eC (.int 18))))) (sPenSet 0 (fun q n => { q with fold := n }) (eOp opMod (eCB biInt (aCons (eOp opAdd (eOp opMul (ePenI 0 Pen.fold) (eC (.int 38993))) (eVar 2)) (aNil))) (eC (.int 2147483399))))))) (sPass)) (sSeq (sIf (eOp opGt (ePenI 0 Pen.digits) (eC (.int 0))) (sSeq (sAsg 3 (eOp opMod (eCB biInt (aCons (ePenI 0 Pen.digits) (aNil))) (eVar 1))) (sSeq (sPenSet 0 (fun q n => { q with digits := n }) (eOp opFdiv (ePenI 0 Pen.digits) (eVar 1))) (sRetV 3))) (sPass)) (sSeq (sAsg 4 (eOp opAdd (eOp opAdd (ePenI 0 Pen.fold) (eOp opMul (ePenI 0 Pen.count) (eC (.int 7603)))) (eC (.int 79)))) (sRet (eOp opMod (eOp opFdiv (eCB biInt (aCons (eOp opMod (eOp opPow (eVar 4) (eC (.int 33))) (eC (.int 2305843009213693951))) (aNil))) (eC (.int 32))) (eVar 1))))))
abbrev fm__law_draw : FM := runF 2 5 m__law_draw
theorem sc__law_draw : FnScope ["pen", "many", "cell", "digit", "blend"] ["pen", "many"] (defScope s__law_draw) := ⟨rfl, rfl, rfl, by decide +kernel, rfl, by decide +kernel, by decide +kernel⟩
theorem f__law_draw (G : Txt P w K mg base T0) : FnG P w K mg base 3 (T0.fa 12) (spD P w K mg base T0 fun th => fm__law_draw) := by
  obtain ⟨fd, F, bd⟩ := G.f__law_draw
  have S := sc__law_draw
  refine fnD (k := 2) (m := fun _ => m__law_draw) G.hK F S bd fun cdv A out s H E T th h => ?_
  unfold m__law_draw
  exact ds_cons (ds_penSet (i := 0) h.hu (fun a q n => (penP a q n).2.2.1) (fun _ _ => rfl) (de_add h.hK (de_penI (i := 0) h.hu fun a q => (penV a q).2.2.2.1) (de_int))) (ds_cons (ds_if (dt_w (dw_and (dt_cmpD (cd_eq h.hK h.hu) (de_penI (i := 0) h.hu fun a q => (penV a q).2.2.1) (de_int) nob) (dw_and1 (dt_cmpD (cd_lt h.hK h.hu) (de_penI (i := 0) h.hu fun a q => (penV a q).2.1) (de_penLen (i := 0) h.hu rfl G.b_len) nob)))) (ds_cons (ds_asg (i := 2) S.nd rfl (by first | exact .inl rfl | exact .inr rfl) (de_penCell (i := 0) h.hu (de_penI (i := 0) h.hu fun a q => (penV a q).2.1))) (ds_cons (ds_penSet (i := 0) h.hu (fun a q n => (penP a q n).1) (fun _ _ => rfl) (de_add h.hK (de_penI (i := 0) h.hu fun a q => (penV a q).2.1) (de_int))) (ds_one (ds_if (dt_cmpD (cd_ge) (de_var (i := 2)) (de_pow (de_int) (de_int)) nob) (ds_one (ds_penSet (i := 0) h.hu (fun a q n => (penP a q n).2.1) (fun _ _ => rfl) (de_sub (de_var (i := 2)) (de_pow (de_int) (de_int))))) (ds_one (ds_penSet (i := 0) h.hu (fun a q n => (penP a q n).2.2.2) (fun _ _ => rfl) (de_mod (de_ty (id := "int") (bi_int) rfl G.b_int (by decide +kernel) (da_cons (de_add h.hK (de_mul h.hK (de_penI (i := 0) h.hu fun a q => (penV a q).2.2.2.2) (de_int)) (de_var (i := 2))) (da_nil))) (de_int)))))))) (ds_nil)) (ds_cons (ds_if (dt_cmpD (cd_gt) (de_penI (i := 0) h.hu fun a q => (penV a q).2.2.1) (de_int) nob) (ds_cons (ds_asg (i := 3) S.nd rfl (by first | exact .inl rfl | exact .inr rfl) (de_mod (de_ty (id := "int") (bi_int) rfl G.b_int (by decide +kernel) (da_cons (de_penI (i := 0) h.hu fun a q => (penV a q).2.2.1) (da_nil))) (de_var (i := 1)))) (ds_cons (ds_penSet (i := 0) h.hu (fun a q n => (penP a q n).2.1) (fun _ _ => rfl) (de_fdiv (de_penI (i := 0) h.hu fun a q => (penV a q).2.2.1) (de_var (i := 1)))) (ds_one (ds_retV (i := 3))))) (ds_nil)) (ds_cons (ds_asg (i := 4) S.nd rfl (by first | exact .inl rfl | exact .inr rfl) (de_add h.hK (de_add h.hK (de_penI (i := 0) h.hu fun a q => (penV a q).2.2.2.2) (de_mul h.hK (de_penI (i := 0) h.hu fun a q => (penV a q).2.2.2.1) (de_int))) (de_int))) (ds_one (ds_ret (de_mod (de_fdiv (de_ty (id := "int") (bi_int) rfl G.b_int (by decide +kernel) (da_cons (de_mod (de_pow (de_var (i := 4)) (de_int)) (de_int)) (da_nil))) (de_int)) (de_var (i := 1))))))))
def m__law_pick : SM :=
  sRet (eOp opIdx (eVar 1) (eCall (fm__law_draw) (aCons (eVar 0) (aCons (eCB biLen (aCons (eVar 1) (aNil))) (aNil)))))
abbrev fm__law_pick : FM := runF 2 2 m__law_pick
theorem sc__law_pick : FnScope ["pen", "some"] ["pen", "some"] (defScope s__law_pick) := ⟨rfl, rfl, rfl, by decide +kernel, rfl, by decide +kernel, by decide +kernel⟩
theorem f__law_pick (G : Txt P w K mg base T0) (F__law_draw : FnG P w K mg base 3 (T0.fa 12) (spD P w K mg base T0 fun th => fm__law_draw)) : FnG P w K mg base 4 (T0.fa 13) (spD P w K mg base T0 fun th => fm__law_pick) := by
  obtain ⟨fd, F, bd⟩ := G.f__law_pick
  have S := sc__law_pick
  refine fnD (k := 3) (m := fun _ => m__law_pick) G.hK F S bd fun cdv A out s H E T th h => ?_
  unfold m__law_pick
  exact ds_one (ds_ret (de_idx h.hK (de_var (i := 1)) (de_call h F__law_draw (by decide) rfl G.g__law_draw G.k__law_draw (da_cons (de_var (i := 0)) (da_cons (de_bi (id := "len") (bi_len h.hK) rfl G.b_len (by decide +kernel) (da_cons (de_var (i := 1)) (da_nil))) (da_nil))))))
theorem tabd : ∀ t ∈ tab_fault, t.2.2.Nodup ∧ t.2.2.length ≤ 1000 := by decide
def m__law_fault (th : TH) : SM :=
  sSeq (sFault 0 tab_fault th) (sRet (eC .non))
abbrev fm__law_fault (th : TH) : FM := runF 1 2 (m__law_fault th)
theorem sc__law_fault : FnScope ["work", "fault"] ["work"] (defScope s__law_fault) := ⟨rfl, rfl, rfl, by decide +kernel, rfl, by decide +kernel, by decide +kernel⟩
theorem f__law_fault (G : Txt P w K mg base T0) : FnG P w K mg base 8 (T0.fa 14) (spD P w K mg base T0 fun th => fm__law_fault th) := by
  obtain ⟨fd, F, bd⟩ := G.f__law_fault
  have S := sc__law_fault
  refine fnD (k := 7) (m := fun th => m__law_fault th) G.hK F S bd fun cdv A out s H E T th h => ?_
  unfold m__law_fault
  exact ds_cons (ds_tryF (k := 7) (n := "fault") (w := "work") (i := 1) (iw := 0) (tab := tab_fault) h (by rw [G.kl]; decide) rfl rfl S.nd rfl rfl rfl (.inl rfl) (.cons ⟨rfl, rfl, .inl (by rw [h.tk.c]; exact G.gc_BadNumber)⟩ (fun x ob cls d pl z f => pss_one (ps_ret (pe_tup (pa_cons pe_str (pa_cons (pe_xf (by rw [h.tk.c]; exact G.x_BadNumber) (by rw [h.tk.c]; exact G.xn_BadNumber_what) z f (pe_var (i := 1) rfl (.inl rfl))) (pa_cons (pe_xf (by rw [h.tk.c]; exact G.x_BadNumber) (by rw [h.tk.c]; exact G.xn_BadNumber_number) z f (pe_var (i := 1) rfl (.inl rfl))) (pa_nil))))))) (.cons ⟨rfl, rfl, .inl (by rw [h.tk.c]; exact G.gc_BadRow)⟩ (fun x ob cls d pl z f => pss_one (ps_ret (pe_tup (pa_cons pe_str (pa_cons (pe_xf (by rw [h.tk.c]; exact G.x_BadRow) (by rw [h.tk.c]; exact G.xn_BadRow_row) z f (pe_var (i := 1) rfl (.inl rfl))) (pa_nil)))))) (.cons ⟨rfl, rfl, .inl (by rw [h.tk.c]; exact G.gc_BadRule)⟩ (fun x ob cls d pl z f => pss_one (ps_ret (pe_tup (pa_cons pe_str (pa_cons (pe_xf (by rw [h.tk.c]; exact G.x_BadRule) (by rw [h.tk.c]; exact G.xn_BadRule_what) z f (pe_var (i := 1) rfl (.inl rfl))) (pa_cons (pe_xf (by rw [h.tk.c]; exact G.x_BadRule) (by rw [h.tk.c]; exact G.xn_BadRule_value) z f (pe_var (i := 1) rfl (.inl rfl))) (pa_nil))))))) (.cons ⟨rfl, rfl, .inl (by rw [h.tk.c]; exact G.gc_BadSum)⟩ (fun x ob cls d pl z f => pss_one (ps_ret (pe_tup (pa_cons pe_str (pa_cons (pe_xf (by rw [h.tk.c]; exact G.x_BadSum) (by rw [h.tk.c]; exact G.xn_BadSum_value) z f (pe_var (i := 1) rfl (.inl rfl))) (pa_nil)))))) (.cons ⟨rfl, rfl, .inl (by rw [h.tk.c]; exact G.gc_BadTable)⟩ (fun x ob cls d pl z f => pss_one (ps_ret (pe_tup (pa_cons pe_str (pa_cons (pe_xf (by rw [h.tk.c]; exact G.x_BadTable) (by rw [h.tk.c]; exact G.xn_BadTable_table) z f (pe_var (i := 1) rfl (.inl rfl))) (pa_nil)))))) (.cons ⟨rfl, rfl, .inl (by rw [h.tk.c]; exact G.gc_TooMany)⟩ (fun x ob cls d pl z f => pss_one (ps_ret (pe_tup (pa_cons pe_str (pa_cons (pe_xf (by rw [h.tk.c]; exact G.x_TooMany) (by rw [h.tk.c]; exact G.xn_TooMany_what) z f (pe_var (i := 1) rfl (.inl rfl))) (pa_cons (pe_xf (by rw [h.tk.c]; exact G.x_TooMany) (by rw [h.tk.c]; exact G.xn_TooMany_many) z f (pe_var (i := 1) rfl (.inl rfl))) (pa_cons (pe_xf (by rw [h.tk.c]; exact G.x_TooMany) (by rw [h.tk.c]; exact G.xn_TooMany_limit) z f (pe_var (i := 1) rfl (.inl rfl))) (pa_nil)))))))) (.cons ⟨rfl, rfl, .inl (by rw [h.tk.c]; exact G.gc_Unlike)⟩ (fun x ob cls d pl z f => pss_one (ps_ret (pe_tup (pa_cons pe_str (pa_cons (pe_xf (by rw [h.tk.c]; exact G.x_Unlike) (by rw [h.tk.c]; exact G.xn_Unlike_what) z f (pe_var (i := 1) rfl (.inl rfl))) (pa_nil)))))) (.nil)))))))) (by rw [h.tk.c]; exact G.exm) fun t ht => by rw [h.tk.n]; exact ⟨G.cft t ht, tabd t ht⟩) (ds_one (ds_ret de_non))
def m__law_is_fault (th : TH) : SM :=
  sRet (eRpr2 true (eCall (fm__law_fault th) (aCons (eVar 0) (aNil))) (eVar 1))
abbrev fm__law_is_fault (th : TH) : FM := runF 2 2 (m__law_is_fault th)
theorem sc__law_is_fault : FnScope ["work", "due"] ["work", "due"] (defScope s__law_is_fault) := ⟨rfl, rfl, rfl, by decide +kernel, rfl, by decide +kernel, by decide +kernel⟩
theorem f__law_is_fault (G : Txt P w K mg base T0) (F__law_fault : FnG P w K mg base 8 (T0.fa 14) (spD P w K mg base T0 fun th => fm__law_fault th)) : FnG P w K mg base 9 (T0.fa 15) (spD P w K mg base T0 fun th => fm__law_is_fault th) := by
  obtain ⟨fd, F, bd⟩ := G.f__law_is_fault
  have S := sc__law_is_fault
  refine fnD (k := 8) (m := fun th => m__law_is_fault th) G.hK F S bd fun cdv A out s H E T th h => ?_
  unfold m__law_is_fault
  exact ds_one (ds_ret (de_rprE (de_cmpD (cd_eq h.hK h.hu) (de_bi (id := "repr") (bi_repr h.hK h.g h.hu) rfl G.b_repr (by decide +kernel) (da_cons (de_call h F__law_fault (by decide) rfl G.g__law_fault G.k__law_fault (da_cons (de_var (i := 0)) (da_nil))) (da_nil))) (de_bi (id := "repr") (bi_repr h.hK h.g h.hu) rfl G.b_repr (by decide +kernel) (da_cons (de_var (i := 1)) (da_nil))) nob)))
def m__law_gauss : SM :=
  sSeq (sAsg 2 (eLst (aCons (eLst (aCons (eC (.int 1)) (aNil))) (aNil)))) (sSeq (sFor (iR opRng2 (aCons (eC (.int 1)) (aCons (eOp opAdd (eVar 0) (eC (.int 1))) (aNil)))) (tmN 3) (sSeq (sAsg 4 (eLst (aNil))) (sSeq (sFor (iR opRng1 (aCons (eOp opAdd (eVar 3) (eC (.int 1))) (aNil))) (tmN 5) (sSeq (sAsg 6 (eOp opAdd (eOp opMul (eVar 5) (eOp opSub (eVar 3) (eVar 5))) (eC (.int 1)))) (sSeq (sAsg 7 (eOp opMul (eLst (aCons (eC (.int 0)) (aNil))) (eVar 6))) (sSeq (sIf (eOp opGt (eVar 5) (eC (.int 0))) (sFor (iR opEnum2 (aCons (eOp opIdx (eVar 2) (eOp opSub (eVar 5) (eC (.int 1)))) (aNil))) (tmT2 2 (tmCons (tmN 8) (tmCons (tmN 9) (tmNil)))) (sStI (eOp opAdd (eOp opIdx (eVar 7) (eVar 8)) (eVar 9)) (plVar 7) (eVar 8))) (sPass)) (sSeq (sIf (eOp opLt (eVar 5) (eVar 3)) (sFor (iR opEnum2 (aCons (eOp opIdx (eVar 2) (eVar 5)) (aNil))) (tmT2 2 (tmCons (tmN 8) (tmCons (tmN 9) (tmNil)))) (sStI (eOp opAdd (eOp opIdx (eVar 7) (eOp opAdd (eVar 8) (eVar 5))) (eVar 9)) (plVar 7) (eOp opAdd (eVar 8) (eVar 5)))) (sPass)) (sApp (plVar 4) (eVar 7))))))) (sAsg 2 (eVar 4))))) (sRet (eCB biTuple (aCons (eOp opIdx (eVar 2) (eVar 1)) (aNil)))))
abbrev fm__law_gauss : FM := runF 2 10 m__law_gauss
theorem sc__law_gauss : FnScope ["n", "k", "rows", "many", "fresh", "size", "wide", "row", "place", "item"] ["n", "k"] (defScope s__law_gauss) := ⟨rfl, rfl, rfl, by decide +kernel, rfl, by decide +kernel, by decide +kernel⟩
theorem f__law_gauss (G : Txt P w K mg base T0) : FnG P w K mg base 3 (T0.fa 16) (spD P w K mg base T0 fun th => fm__law_gauss) := by
  obtain ⟨fd, F, bd⟩ := G.f__law_gauss
  have S := sc__law_gauss
  refine fnD (k := 2) (m := fun _ => m__law_gauss) G.hK F S bd fun cdv A out s H E T th h => ?_
  unfold m__law_gauss
  exact ds_cons (ds_asg (i := 2) S.nd rfl (by first | exact .inl rfl | exact .inr rfl) (de_lst (da_cons (de_lst (da_cons (de_int) (da_nil))) (da_nil)))) (ds_cons (ds_for h.po h.c (di_rng2 (da_cons (de_int) (da_cons (de_add h.hK (de_var (i := 0)) (de_int)) (da_nil))) rfl G.b_range) (dg_name (i := 3) S.nd rfl (by first | exact .inl rfl | exact .inr rfl)) (ds_cons (ds_asg (i := 4) S.nd rfl (by first | exact .inl rfl | exact .inr rfl) (de_lst (da_nil))) (ds_cons (ds_for h.po h.c (di_rng1 (da_cons (de_add h.hK (de_var (i := 3)) (de_int)) (da_nil)) rfl G.b_range) (dg_name (i := 5) S.nd rfl (by first | exact .inl rfl | exact .inr rfl)) (ds_cons (ds_asg (i := 6) S.nd rfl (by first | exact .inl rfl | exact .inr rfl) (de_add h.hK (de_mul h.hK (de_var (i := 5)) (de_sub (de_var (i := 3)) (de_var (i := 5)))) (de_int))) (ds_cons (ds_asg (i := 7) S.nd rfl (by first | exact .inl rfl | exact .inr rfl) (de_mul h.hK (de_lst (da_cons (de_int) (da_nil))) (de_var (i := 6)))) (ds_cons (ds_if (dt_cmpD (cd_gt) (de_var (i := 5)) (de_int) nob) (ds_one (ds_for h.po h.c (di_enum2 h.hK (da_cons (de_idx h.hK (de_var (i := 2)) (de_sub (de_var (i := 5)) (de_int))) (da_nil)) rfl G.b_enumerate) (dg_tup2 (n := 2) h.c h.hK (dgs_cons (dg_name (i := 8) S.nd rfl (by first | exact .inl rfl | exact .inr rfl)) (dgs_cons (dg_name (i := 9) S.nd rfl (by first | exact .inl rfl | exact .inr rfl)) (dgs_nil)))) (ds_one (ds_stI (dp_var (i := 7)) (de_var (i := 8)) (de_add h.hK (de_idx h.hK (de_var (i := 7)) (de_var (i := 8))) (de_var (i := 9))))))) (ds_nil)) (ds_cons (ds_if (dt_cmpD (cd_lt h.hK h.hu) (de_var (i := 5)) (de_var (i := 3)) nob) (ds_one (ds_for h.po h.c (di_enum2 h.hK (da_cons (de_idx h.hK (de_var (i := 2)) (de_var (i := 5))) (da_nil)) rfl G.b_enumerate) (dg_tup2 (n := 2) h.c h.hK (dgs_cons (dg_name (i := 8) S.nd rfl (by first | exact .inl rfl | exact .inr rfl)) (dgs_cons (dg_name (i := 9) S.nd rfl (by first | exact .inl rfl | exact .inr rfl)) (dgs_nil)))) (ds_one (ds_stI (dp_var (i := 7)) (de_add h.hK (de_var (i := 8)) (de_var (i := 5))) (de_add h.hK (de_idx h.hK (de_var (i := 7)) (de_add h.hK (de_var (i := 8)) (de_var (i := 5)))) (de_var (i := 9))))))) (ds_nil)) (ds_one (ds_append (dp_var (i := 4)) (de_var (i := 7))))))))) (ds_one (ds_asg (i := 2) S.nd rfl (by first | exact .inl rfl | exact .inr rfl) (de_var (i := 4))))))) (ds_one (ds_ret (de_ty (id := "tuple") (bi_tuple h.hK) rfl G.b_tuple (by decide +kernel) (da_cons (de_idx h.hK (de_var (i := 2)) (de_var (i := 1))) (da_nil))))))
def m__law_worth : SM :=
  sSeq (sAsg 2 (eC (.int 0))) (sSeq (sFor (iX (eUn opRev (eVar 0))) (tmN 3) (sAsg 2 (eOp opAdd (eOp opMul (eVar 2) (eVar 1)) (eVar 3)))) (sRetV 2))
abbrev fm__law_worth : FM := runF 2 4 m__law_worth
theorem sc__law_worth : FnScope ["row", "q", "total", "item"] ["row", "q"] (defScope s__law_worth) := ⟨rfl, rfl, rfl, by decide +kernel, rfl, by decide +kernel, by decide +kernel⟩
theorem f__law_worth (G : Txt P w K mg base T0) : FnG P w K mg base 3 (T0.fa 17) (spD P w K mg base T0 fun th => fm__law_worth) := by
  obtain ⟨fd, F, bd⟩ := G.f__law_worth
  have S := sc__law_worth
  refine fnD (k := 2) (m := fun _ => m__law_worth) G.hK F S bd fun cdv A out s H E T th h => ?_
  unfold m__law_worth
  exact ds_cons (ds_asg (i := 2) S.nd rfl (by first | exact .inl rfl | exact .inr rfl) (de_int)) (ds_cons (ds_for h.po h.c (di_seq h.hK (de_rev h.hK (de_var (i := 0)))) (dg_name (i := 3) S.nd rfl (by first | exact .inl rfl | exact .inr rfl)) (ds_one (ds_asg (i := 2) S.nd rfl (by first | exact .inl rfl | exact .inr rfl) (de_add h.hK (de_mul h.hK (de_var (i := 2)) (de_var (i := 1))) (de_var (i := 3)))))) (ds_one (ds_retV (i := 2))))
def m__law_power : SM :=
  sSeq (sAsg 2 (eC (.int 1))) (sSeq (sFor (iR opRng1 (aCons (eVar 1) (aNil))) (tmN 3) (sAsg 2 (eOp opMul (eVar 2) (eVar 0)))) (sRetV 2))
abbrev fm__law_power : FM := runF 2 4 m__law_power
theorem sc__law_power : FnScope ["q", "many", "found", "turn"] ["q", "many"] (defScope s__law_power) := ⟨rfl, rfl, rfl, by decide +kernel, rfl, by decide +kernel, by decide +kernel⟩
theorem f__law_power (G : Txt P w K mg base T0) : FnG P w K mg base 3 (T0.fa 18) (spD P w K mg base T0 fun th => fm__law_power) := by
  obtain ⟨fd, F, bd⟩ := G.f__law_power
  have S := sc__law_power
  refine fnD (k := 2) (m := fun _ => m__law_power) G.hK F S bd fun cdv A out s H E T th h => ?_
  unfold m__law_power
  exact ds_cons (ds_asg (i := 2) S.nd rfl (by first | exact .inl rfl | exact .inr rfl) (de_int)) (ds_cons (ds_for h.po h.c (di_rng1 (da_cons (de_var (i := 1)) (da_nil)) rfl G.b_range) (dg_name (i := 3) S.nd rfl (by first | exact .inl rfl | exact .inr rfl)) (ds_one (ds_asg (i := 2) S.nd rfl (by first | exact .inl rfl | exact .inr rfl) (de_mul h.hK (de_var (i := 2)) (de_var (i := 0)))))) (ds_one (ds_retV (i := 2))))
def m__law_product_of : SM :=
  sSeq (sAsg 2 (eCB biLen (aCons (eVar 0) (aNil)))) (sRet (eLc 1 [5] (iR opRng1 (aCons (eVar 2) (aNil))) (tmN 5) (eC (.bl true)) (eLc 0 [4] (iR opRng1 (aCons (eVar 2) (aNil))) (tmN 4) (eC (.bl true)) (eCB biSum (aCons (eLc 0 [3] (iR opRng1 (aCons (eVar 2) (aNil))) (tmN 3) (eC (.bl true)) (eOp opMul (eOp opIdx (eOp opIdx (eVar 0) (eVar 5)) (eVar 3)) (eOp opIdx (eOp opIdx (eVar 1) (eVar 3)) (eVar 4)))) (aNil))))))
abbrev fm__law_product_of : FM := runF 2 6 m__law_product_of
theorem sc__law_product_of : FnScope ["one", "two", "size", "k", "j", "i"] ["one", "two"] (defScope s__law_product_of) := ⟨rfl, rfl, rfl, by decide +kernel, rfl, by decide +kernel, by decide +kernel⟩
theorem f__law_product_of (G : Txt P w K mg base T0) : FnG P w K mg base 3 (T0.fa 19) (spD P w K mg base T0 fun th => fm__law_product_of) := by
  obtain ⟨fd, F, bd⟩ := G.f__law_product_of
  have S := sc__law_product_of
  refine fnD (k := 2) (m := fun _ => m__law_product_of) G.hK F S bd fun cdv A out s H E T th h => ?_
  unfold m__law_product_of
  exact ds_cons (ds_asg (i := 2) S.nd rfl (by first | exact .inl rfl | exact .inr rfl) (de_bi (id := "len") (bi_len h.hK) rfl G.b_len (by decide +kernel) (da_cons (de_var (i := 0)) (da_nil)))) (ds_one (ds_ret (de_lc (own := [("i", 5)]) 1 h.c S.nd (di_rng1 (da_cons (de_var (i := 2)) (da_nil)) rfl G.b_range) (blkD (N0 := ["one", "two", "size", "k", "j", "i"]) (s0 := defScope s__law_product_of) rfl rfl ⟨rfl, by decide +kernel, by decide +kernel, by decide +kernel, by decide +kernel⟩) (fun s1 H1 C1 l1 p1 => dg_name (i := 5) S.nd rfl (by first | exact .inl rfl | exact .inr rfl)) (fun s1 H1 C1 l1 p1 => dts_nil) (fun s1 H1 C1 l1 p1 => de_lc (own := [("j", 4)]) 0 h.c S.nd (di_rng1 (da_cons (de_var (i := 2)) (da_nil)) rfl G.b_range) (blkD rfl rfl ⟨rfl, of_decide_eq_true (by kernel_rfl), of_decide_eq_true (by kernel_rfl), of_decide_eq_true (by kernel_rfl), of_decide_eq_true (by kernel_rfl)⟩) (fun s2 H2 C2 l2 p2 => dg_name (i := 4) S.nd rfl (by first | exact .inl rfl | exact .inr rfl)) (fun s2 H2 C2 l2 p2 => dts_nil) (fun s2 H2 C2 l2 p2 => de_bi (id := "sum") (bi_sum h.hK h.c) rfl G.b_sum (by decide +kernel) (da_cons (de_lc (own := [("k", 3)]) 0 h.c S.nd (di_rng1 (da_cons (de_var (i := 2)) (da_nil)) rfl G.b_range) (blkD rfl rfl ⟨rfl, of_decide_eq_true (by kernel_rfl), of_decide_eq_true (by kernel_rfl), of_decide_eq_true (by kernel_rfl), of_decide_eq_true (by kernel_rfl)⟩) (fun s3 H3 C3 l3 p3 => dg_name (i := 3) S.nd rfl (by first | exact .inl rfl | exact .inr rfl)) (fun s3 H3 C3 l3 p3 => dts_nil) (fun s3 H3 C3 l3 p3 => de_mul h.hK (de_idx h.hK (de_idx h.hK (de_var (i := 0)) (de_var (i := 5))) (de_var (i := 3))) (de_idx h.hK (de_idx h.hK (de_var (i := 1)) (de_var (i := 3))) (de_var (i := 4))))) (da_nil)))))))
theorem sc__law_pen : FnScope ["script", "fold", "cell"] ["script"] (defScope s__law_pen) := ⟨rfl, rfl, rfl, by decide +kernel, rfl, by decide +kernel, by decide +kernel⟩
theorem f__law_pen (G : Txt P w K mg base T0) : FnG P w K mg base 4 (T0.fa 11) (spPen K) := by
  obtain ⟨fd, F, bd⟩ := G.f__law_pen
  have S := sc__law_pen
  refine pen_fn (k := 3) G.hK F S bd fun cdv A out s H E T th h => ?_
  exact pss_cons (ps_set (i := 1) S.nd rfl (.inl rfl) pe_int) (pss_cons (ps_for h.po h.c (pi_list (pe_var (i := 0) rfl (.inl rfl))) (pg_name (i := 2) S.nd rfl (.inl rfl)) (pss_one (ps_set (i := 1) S.nd rfl (.inl rfl) (show DE _ T WxF _ mPenE from de_mod (de_ty (id := "int") (bi_int) rfl G.b_int (by decide +kernel) (da_cons (de_add h.hK (de_mul h.hK (de_var (i := 1)) (de_int)) (de_var (i := 2))) (da_nil))) (de_int))))) (pss_one (ps_ret (pe_disp (pps_cons pe_str (pe_callTy (X := cxOf (L2.CX P w) P w K mg base ["script", "fold", "cell"] "_law_pen" (defScope s__law_pen) _ cdv A out s H E) (r := rList K) call_list_of rfl G.b_list (by decide +kernel) (pa_cons (pe_var (i := 0) rfl (.inl rfl)) pa_nil)) (pps_cons pe_str pe_int (pps_cons pe_str pe_int (pps_cons pe_str pe_int (pps_cons pe_str (pe_var (i := 1) rfl (.inl rfl)) pps_nil))))) rfl rfl (by simp) (by decide)))))
def lm_0 : M Z := eCall (fm_gauss_table) (aCons (eVar 14) (aCons (eVar 15) (aNil)))
def lm_1 : M Z := eCall (fm_gauss_table) (aCons (eC (.int 3)) (aCons (eVar 15) (aNil)))
def lm_2 : M Z := eCall (fm_back_table) (aCons (eVar 14) (aCons (eVar 15) (aNil)))
def lm_3 : M Z := eCall (fm_back_table) (aCons (eC (.int 3)) (aCons (eVar 15) (aNil)))
def thk : DL.Env → TH := fun ρ n => match n with
  | 0 => lamR lm_0 ρ
  | 1 => lamR lm_1 ρ
  | 2 => lamR lm_2 ρ
  | 3 => lamR lm_3 ρ
  | _ => fun _ => .bad
def cl_law (X : Cx) : Nat → Addr → Addr → HO := fun n => match n with
  | 0 => lamAt X (defBody s_law) [3] [0, 0]
  | 1 => lamAt X (defBody s_law) [4] [1, 0]
  | 2 => lamAt X (defBody s_law) [5] [1, 0]
  | 3 => lamAt X (defBody s_law) [6] [1, 0]
  | _ => fun _ _ => .tbl #[]
def m_law : SM :=
  sSeq (sFor (iR opRng1 (aCons (eC (.int 2)) (aNil))) (tmN 2) (sSeq (sPar [3, 4] (aCons (eCall (fm__law_draw) (aCons (eVar 1) (aCons (eC (.int 9)) (aNil)))) (aCons (eCall (fm__law_draw) (aCons (eVar 1) (aCons (eC (.int 10)) (aNil)))) (aNil)))) (sSeq (sPar [5, 6] (aCons (eLst (aNil)) (aCons (eLst (aNil)) (aNil)))) (sSeq (sFor (iR opRng1 (aCons (eOp opAdd (eVar 3) (eC (.int 1))) (aNil))) (tmN 7) (sSeq (sAsg 8 (eLc 0 [9] (iR opRng1 (aCons (eOp opAdd (eVar 3) (eC (.int 1))) (aNil))) (tmN 9) (eC (.bl true)) (eIf (eOp opLe (eVar 9) (eVar 7)) (eCall (fm__law_worth) (aCons (eCall (fm__law_gauss) (aCons (eVar 7) (aCons (eVar 9) (aNil)))) (aCons (eVar 4) (aNil)))) (eC (.int 0))))) (sSeq (sApp (plVar 5) (eCB biTuple (aCons (eVar 8) (aNil)))) (sSeq (sAsg 10 (eLc 0 [9] (iR opRng1 (aCons (eOp opAdd (eVar 3) (eC (.int 1))) (aNil))) (tmN 9) (eC (.bl true)) (eIf (eOp opLe (eVar 9) (eVar 7)) (eOp opMul (eOp opMul (eIf (eOp opEq (eOp opMod (eCB biInt (aCons (eOp opSub (eVar 7) (eVar 9)) (aNil))) (eC (.int 2))) (eC (.int 0))) (eC (.int 1)) (eUn opNeg (eC (.int 1)))) (eCall (fm__law_power) (aCons (eVar 4) (aCons (eOp opFdiv (eOp opMul (eOp opSub (eVar 7) (eVar 9)) (eOp opSub (eOp opSub (eVar 7) (eVar 9)) (eC (.int 1)))) (eC (.int 2))) (aNil))))) (eOp opIdx (eVar 8) (eVar 9))) (eC (.int 0))))) (sApp (plVar 6) (eCB biTuple (aCons (eVar 10) (aNil)))))))) (sSeq (sPar [11, 12] (aCons (eCall (fm_gauss_table) (aCons (eVar 3) (aCons (eVar 4) (aNil)))) (aCons (eCall (fm_back_table) (aCons (eVar 3) (aCons (eVar 4) (aNil)))) (aNil)))) (sSeq (sIf (eOr (eRpr2 false (eVar 11) (eCB biTuple (aCons (eVar 5) (aNil)))) (eRpr2 false (eVar 12) (eCB biTuple (aCons (eVar 6) (aNil))))) (sRet (eC (.bl false))) (sPass)) (sSeq (sAsg 13 (eLc 1 [7] (iR opRng1 (aCons (eOp opAdd (eVar 3) (eC (.int 1))) (aNil))) (tmN 7) (eC (.bl true)) (eLc 0 [9] (iR opRng1 (aCons (eOp opAdd (eVar 3) (eC (.int 1))) (aNil))) (tmN 9) (eC (.bl true)) (eCB biInt (aCons (eOp opEq (eVar 7) (eVar 9)) (aNil)))))) (sIf (eOr (eOp opNe (eCall (fm__law_product_of) (aCons (eVar 11) (aCons (eVar 12) (aNil)))) (eVar 13)) (eOp opNe (eCall (fm__law_product_of) (aCons (eVar 12) (aCons (eVar 11) (aNil)))) (eVar 13))) (sRet (eC (.bl false))) (sPass))))))))) (sSeq (sPar [14, 15] (aCons (eCall (fm__law_pick) (aCons (eVar 1) (aCons (eLst (aCons (eUn opNeg (eC (.int 1))) (aCons (eC (.int 9)) (aCons (eC .non) (aCons (eC (.bl true)) (aCons (eC (.str "1")) (aNil))))))) (aNil)))) (aCons (eCall (fm__law_pick) (aCons (eVar 1) (aCons (eLst (aCons (eUn opNeg (eC (.int 1))) (aCons (eC (.int 10)) (aCons (eC .non) (aCons (eC (.bl true)) (aCons (eC (.str "1")) (aNil))))))) (aNil)))) (aNil)))) (sSeq (sAsg 16 (eLst (aCons (eTup (aCons (eC (.clo 0)) (aCons (eTup (aCons (eC (.str "number")) (aCons (eC (.str "n")) (aCons (eVar 14) (aNil))))) (aNil)))) (aNil)))) (sSeq (sApp (plVar 16) (eTup (aCons (eC (.clo 1)) (aCons (eTup (aCons (eC (.str "number")) (aCons (eC (.str "q")) (aCons (eVar 15) (aNil))))) (aNil))))) (sSeq (sApp (plVar 16) (eTup (aCons (eC (.clo 2)) (aCons (eTup (aCons (eC (.str "number")) (aCons (eC (.str "n")) (aCons (eVar 14) (aNil))))) (aNil))))) (sSeq (sApp (plVar 16) (eTup (aCons (eC (.clo 3)) (aCons (eTup (aCons (eC (.str "number")) (aCons (eC (.str "q")) (aCons (eVar 15) (aNil))))) (aNil))))) (sRet (eCB biAll (aCons (eFz [17, 5] (eLc 0 [17, 5] (iX (eVar 16)) (tmT2 2 (tmCons (tmN 17) (tmCons (tmN 5) (tmNil)))) (eC (.bl true)) (eCallL thk fm__law_is_fault (aCons (eVar 17) (aCons (eVar 5) (aNil)))))) (aNil)))))))))
theorem sc_law : FnScope ["script", "pen", "lap", "n", "q", "due", "back", "i", "row", "j", "signed", "one", "two", "units", "low", "odd", "calls", "call"] ["script"] (defScope s_law) := ⟨rfl, rfl, rfl, by decide +kernel, rfl, by decide +kernel, by decide +kernel⟩
theorem f_law (G : Txt P w K mg base T0) (F__law_pen : FnG P w K mg base 4 (T0.fa 11) (spPen K)) (F__law_draw : FnG P w K mg base 3 (T0.fa 12) (spD P w K mg base T0 fun th => fm__law_draw)) (F__law_gauss : FnG P w K mg base 3 (T0.fa 16) (spD P w K mg base T0 fun th => fm__law_gauss)) (F__law_worth : FnG P w K mg base 3 (T0.fa 17) (spD P w K mg base T0 fun th => fm__law_worth)) (F__law_power : FnG P w K mg base 3 (T0.fa 18) (spD P w K mg base T0 fun th => fm__law_power)) (F_back_table : FnG P w K mg base 6 (T0.fa 10) (spD P w K mg base T0 fun th => fm_back_table)) (F_gauss_table : FnG P w K mg base 6 (T0.fa 8) (spD P w K mg base T0 fun th => fm_gauss_table)) (F__law_product_of : FnG P w K mg base 3 (T0.fa 19) (spD P w K mg base T0 fun th => fm__law_product_of)) (F__law_pick : FnG P w K mg base 4 (T0.fa 13) (spD P w K mg base T0 fun th => fm__law_pick)) (F__law_is_fault : FnG P w K mg base 9 (T0.fa 15) (spD P w K mg base T0 fun th => fm__law_is_fault th)) {c t : Addr} (TB : LamX.TabB base mg c t) (hcd : ∀ fd, Fun K "law" "law" s_law (T0.fa 20) fd → fd.code = .ref c) (ok : ∀ ns : List Int, ns.length ≤ 63 → lawOk (m_law (startL 16) (some (penNew ns)))) : FnG P w K mg base 10 (T0.fa 20) (spLaw K [(t, lawQ)] 63) := by
  obtain ⟨fd, F, bd⟩ := G.f_law
  have S := sc_law
  have cdE := hcd fd F
  refine law_fn (fp := 0) (k := 9) (n := 16) (nl := 63) (m := m_law) (tb := [(t, lawQ)]) (cl := cl_law) G.hK F S bd rfl rfl (fun cdv A out s H E T th h => ?_) (fun cdv hcv A out s H E T th h etb ecl ecq => ?_) ok
  · exact ps_set (i := 1) S.nd rfl (by first | exact .inl rfl | exact .inr rfl) (pe_callG F__law_pen (by decide) h.g h.r rfl G.g__law_pen G.k__law_pen h.t (pa_cons (pe_var (i := 0) rfl (.inl rfl)) pa_nil) (by decide) rfl rfl)
  · have hcode : (lawCx P w K mg base ["script", "pen", "lap", "n", "q", "due", "back", "i", "row", "j", "signed", "one", "two", "units", "low", "odd", "calls", "call"] s_law (T0.fa 20) cdv A out s H E).env.code = .ref c := hcv.symm.trans cdE
    have LM : ∀ (T' : Tx) (ρ : DL.Env) (σ : L2.St) (n : Nat), TK T0 T' → T'.K = K → T'.cl = T.cl → T'.cq = T.cq → CapR (lawCx P w K mg base ["script", "pen", "lap", "n", "q", "due", "back", "i", "row", "j", "signed", "one", "two", "units", "low", "odd", "calls", "call"] s_law (T0.fa 20) cdv A out s H E) T' ρ σ → LamRun P w K mg base T' n (thk ρ n) := by
      intro T' ρ σ n tk hK hcl hcq cr
      match n with
      | 0 => exact lam_good (X := lawCx P w K mg base ["script", "pen", "lap", "n", "q", "due", "back", "i", "row", "j", "signed", "one", "two", "units", "low", "odd", "calls", "call"] s_law (T0.fa 20) cdv A out s H E) (T0 := T0) (k := 6) (params := (bodyAt (defBody s_law) [3] [0, 0]).1) (body := (bodyAt (defBody s_law) [3] [0, 0]).2.1) (scope := (bodyAt (defBody s_law) [3] [0, 0]).2.2) tk hK cr (LamX.lamS_by (sc := defScope s_law) (by decide +kernel)) (by rw [G.kl]) (by rw [hcl, ecl]; rfl) ((congrFun hcq 0).trans (ecq 0)) (fun _ _ _ _ => rfl) fun A out s H E f c T' th h => de_call h F_gauss_table (by decide) rfl G.g_gauss_table G.k_gauss_table (da_cons (de_var (i := 14)) (da_cons (de_var (i := 15)) (da_nil)))
      | 1 => exact lam_good (X := lawCx P w K mg base ["script", "pen", "lap", "n", "q", "due", "back", "i", "row", "j", "signed", "one", "two", "units", "low", "odd", "calls", "call"] s_law (T0.fa 20) cdv A out s H E) (T0 := T0) (k := 6) (params := (bodyAt (defBody s_law) [4] [1, 0]).1) (body := (bodyAt (defBody s_law) [4] [1, 0]).2.1) (scope := (bodyAt (defBody s_law) [4] [1, 0]).2.2) tk hK cr (LamX.lamS_by (sc := defScope s_law) (by decide +kernel)) (by rw [G.kl]) (by rw [hcl, ecl]; rfl) ((congrFun hcq 1).trans (ecq 1)) (fun _ _ _ _ => rfl) fun A out s H E f c T' th h => de_call h F_gauss_table (by decide) rfl G.g_gauss_table G.k_gauss_table (da_cons (de_int) (da_cons (de_var (i := 15)) (da_nil)))
      | 2 => exact lam_good (X := lawCx P w K mg base ["script", "pen", "lap", "n", "q", "due", "back", "i", "row", "j", "signed", "one", "two", "units", "low", "odd", "calls", "call"] s_law (T0.fa 20) cdv A out s H E) (T0 := T0) (k := 6) (params := (bodyAt (defBody s_law) [5] [1, 0]).1) (body := (bodyAt (defBody s_law) [5] [1, 0]).2.1) (scope := (bodyAt (defBody s_law) [5] [1, 0]).2.2) tk hK cr (LamX.lamS_by (sc := defScope s_law) (by decide +kernel)) (by rw [G.kl]) (by rw [hcl, ecl]; rfl) ((congrFun hcq 2).trans (ecq 2)) (fun _ _ _ _ => rfl) fun A out s H E f c T' th h => de_call h F_back_table (by decide) rfl G.g_back_table G.k_back_table (da_cons (de_var (i := 14)) (da_cons (de_var (i := 15)) (da_nil)))
      | 3 => exact lam_good (X := lawCx P w K mg base ["script", "pen", "lap", "n", "q", "due", "back", "i", "row", "j", "signed", "one", "two", "units", "low", "odd", "calls", "call"] s_law (T0.fa 20) cdv A out s H E) (T0 := T0) (k := 6) (params := (bodyAt (defBody s_law) [6] [1, 0]).1) (body := (bodyAt (defBody s_law) [6] [1, 0]).2.1) (scope := (bodyAt (defBody s_law) [6] [1, 0]).2.2) tk hK cr (LamX.lamS_by (sc := defScope s_law) (by decide +kernel)) (by rw [G.kl]) (by rw [hcl, ecl]; rfl) ((congrFun hcq 3).trans (ecq 3)) (fun _ _ _ _ => rfl) fun A out s H E f c T' th h => de_call h F_back_table (by decide) rfl G.g_back_table G.k_back_table (da_cons (de_int) (da_cons (de_var (i := 15)) (da_nil)))
      | n + 4 => exact lam_bad
    unfold m_law
    exact ds_cons (ds_for h.po h.c (di_rng1 (da_cons (de_int) (da_nil)) rfl G.b_range) (dg_name (i := 2) S.nd rfl (by first | exact .inl rfl | exact .inr rfl)) (ds_cons ((by first | exact ds_par2 (i := 3) (j := 4) h.c S.nd rfl rfl (by decide) rfl rfl (db_cons (de_call h F__law_draw (by decide) rfl G.g__law_draw G.k__law_draw (da_cons (de_var (i := 1)) (da_cons (de_int) (da_nil)))) (db_cons (de_call h F__law_draw (by decide) rfl G.g__law_draw G.k__law_draw (da_cons (de_var (i := 1)) (da_cons (de_int) (da_nil)))) (db_nil))) (by rfl) | exact ds_parN (is := [3, 4]) h.c (db_cons (de_call h F__law_draw (by decide) rfl G.g__law_draw G.k__law_draw (da_cons (de_var (i := 1)) (da_cons (de_int) (da_nil)))) (db_cons (de_call h F__law_draw (by decide) rfl G.g__law_draw G.k__law_draw (da_cons (de_var (i := 1)) (da_cons (de_int) (da_nil)))) (db_nil))) (pgs_cons (pg_name (i := 3) S.nd rfl (by first | exact .inl rfl | exact .inr rfl)) (pgs_cons (pg_name (i := 4) S.nd rfl (by first | exact .inl rfl | exact .inr rfl)) (pgs_nil))))) (ds_cons ((by first | exact ds_par2 (i := 5) (j := 6) h.c S.nd rfl rfl (by decide) rfl rfl (db_cons (de_lst (da_nil)) (db_cons (de_lst (da_nil)) (db_nil))) (by rfl) | exact ds_parN (is := [5, 6]) h.c (db_cons (de_lst (da_nil)) (db_cons (de_lst (da_nil)) (db_nil))) (pgs_cons (pg_name (i := 5) S.nd rfl (by first | exact .inl rfl | exact .inr rfl)) (pgs_cons (pg_name (i := 6) S.nd rfl (by first | exact .inl rfl | exact .inr rfl)) (pgs_nil))))) (ds_cons (ds_for h.po h.c (di_rng1 (da_cons (de_add h.hK (de_var (i := 3)) (de_int)) (da_nil)) rfl G.b_range) (dg_name (i := 7) S.nd rfl (by first | exact .inl rfl | exact .inr rfl)) (ds_cons ((by first | exact ds_setLc (i := 8) (own := [("j", 9)]) 0 h.c S.nd rfl rfl (by first | rfl | exact sw_true rfl rfl rfl rfl) (di_rng1 (da_cons (de_add h.hK (de_var (i := 3)) (de_int)) (da_nil)) rfl G.b_range) (blkD (N0 := ["script", "pen", "lap", "n", "q", "due", "back", "i", "row", "j", "signed", "one", "two", "units", "low", "odd", "calls", "call"]) (s0 := defScope s_law) rfl rfl ⟨rfl, by decide +kernel, by decide +kernel, by decide +kernel, by decide +kernel⟩) (fun s1 H1 C1 l1 p1 => dg_name (i := 9) S.nd rfl (by first | exact .inl rfl | exact .inr rfl)) (fun s1 H1 C1 l1 p1 => dts_nil) (fun s1 H1 C1 l1 p1 => de_if (dt_cmpD (cd_le) (de_var (i := 9)) (de_var (i := 7)) nob) (de_call (h.blk s1 H1 _ _ p1) F__law_worth (by decide) rfl G.g__law_worth G.k__law_worth (da_cons (de_call (h.blk s1 H1 _ _ p1) F__law_gauss (by decide) rfl G.g__law_gauss G.k__law_gauss (da_cons (de_var (i := 7)) (da_cons (de_var (i := 9)) (da_nil)))) (da_cons (de_var (i := 4)) (da_nil)))) (de_int)) | exact ds_asg (i := 8) S.nd rfl (by first | exact .inl rfl | exact .inr rfl) (de_lc (own := [("j", 9)]) 0 h.c S.nd (di_rng1 (da_cons (de_add h.hK (de_var (i := 3)) (de_int)) (da_nil)) rfl G.b_range) (blkD (N0 := ["script", "pen", "lap", "n", "q", "due", "back", "i", "row", "j", "signed", "one", "two", "units", "low", "odd", "calls", "call"]) (s0 := defScope s_law) rfl rfl ⟨rfl, by decide +kernel, by decide +kernel, by decide +kernel, by decide +kernel⟩) (fun s1 H1 C1 l1 p1 => dg_name (i := 9) S.nd rfl (by first | exact .inl rfl | exact .inr rfl)) (fun s1 H1 C1 l1 p1 => dts_nil) (fun s1 H1 C1 l1 p1 => de_if (dt_cmpD (cd_le) (de_var (i := 9)) (de_var (i := 7)) nob) (de_call (h.blk s1 H1 _ _ p1) F__law_worth (by decide) rfl G.g__law_worth G.k__law_worth (da_cons (de_call (h.blk s1 H1 _ _ p1) F__law_gauss (by decide) rfl G.g__law_gauss G.k__law_gauss (da_cons (de_var (i := 7)) (da_cons (de_var (i := 9)) (da_nil)))) (da_cons (de_var (i := 4)) (da_nil)))) (de_int))))) (ds_cons (ds_append (dp_var (i := 5)) (de_ty (id := "tuple") (bi_tuple h.hK) rfl G.b_tuple (by decide +kernel) (da_cons (de_var (i := 8)) (da_nil)))) (ds_cons ((by first | exact ds_setLc (i := 10) (own := [("j", 9)]) 0 h.c S.nd rfl rfl (by first | rfl | exact sw_true rfl rfl rfl rfl) (di_rng1 (da_cons (de_add h.hK (de_var (i := 3)) (de_int)) (da_nil)) rfl G.b_range) (blkD rfl rfl ⟨rfl, of_decide_eq_true (by kernel_rfl), of_decide_eq_true (by kernel_rfl), of_decide_eq_true (by kernel_rfl), of_decide_eq_true (by kernel_rfl)⟩) (fun s2 H2 C2 l2 p2 => dg_name (i := 9) S.nd rfl (by first | exact .inl rfl | exact .inr rfl)) (fun s2 H2 C2 l2 p2 => dts_nil) (fun s2 H2 C2 l2 p2 => de_if (dt_cmpD (cd_le) (de_var (i := 9)) (de_var (i := 7)) nob) (de_mul h.hK (de_mul h.hK (de_if (dt_cmpD (cd_eq h.hK h.hu) (de_mod (de_ty (id := "int") (bi_int) rfl G.b_int (by decide +kernel) (da_cons (de_sub (de_var (i := 7)) (de_var (i := 9))) (da_nil))) (de_int)) (de_int) nob) (de_int) (de_neg (de_int))) (de_call (h.blk s2 H2 _ _ p2) F__law_power (by decide) rfl G.g__law_power G.k__law_power (da_cons (de_var (i := 4)) (da_cons (de_fdiv (de_mul h.hK (de_sub (de_var (i := 7)) (de_var (i := 9))) (de_sub (de_sub (de_var (i := 7)) (de_var (i := 9))) (de_int))) (de_int)) (da_nil))))) (de_idx h.hK (de_var (i := 8)) (de_var (i := 9)))) (de_int)) | exact ds_asg (i := 10) S.nd rfl (by first | exact .inl rfl | exact .inr rfl) (de_lc (own := [("j", 9)]) 0 h.c S.nd (di_rng1 (da_cons (de_add h.hK (de_var (i := 3)) (de_int)) (da_nil)) rfl G.b_range) (blkD rfl rfl ⟨rfl, of_decide_eq_true (by kernel_rfl), of_decide_eq_true (by kernel_rfl), of_decide_eq_true (by kernel_rfl), of_decide_eq_true (by kernel_rfl)⟩) (fun s2 H2 C2 l2 p2 => dg_name (i := 9) S.nd rfl (by first | exact .inl rfl | exact .inr rfl)) (fun s2 H2 C2 l2 p2 => dts_nil) (fun s2 H2 C2 l2 p2 => de_if (dt_cmpD (cd_le) (de_var (i := 9)) (de_var (i := 7)) nob) (de_mul h.hK (de_mul h.hK (de_if (dt_cmpD (cd_eq h.hK h.hu) (de_mod (de_ty (id := "int") (bi_int) rfl G.b_int (by decide +kernel) (da_cons (de_sub (de_var (i := 7)) (de_var (i := 9))) (da_nil))) (de_int)) (de_int) nob) (de_int) (de_neg (de_int))) (de_call (h.blk s2 H2 _ _ p2) F__law_power (by decide) rfl G.g__law_power G.k__law_power (da_cons (de_var (i := 4)) (da_cons (de_fdiv (de_mul h.hK (de_sub (de_var (i := 7)) (de_var (i := 9))) (de_sub (de_sub (de_var (i := 7)) (de_var (i := 9))) (de_int))) (de_int)) (da_nil))))) (de_idx h.hK (de_var (i := 8)) (de_var (i := 9)))) (de_int))))) (ds_one (ds_append (dp_var (i := 6)) (de_ty (id := "tuple") (bi_tuple h.hK) rfl G.b_tuple (by decide +kernel) (da_cons (de_var (i := 10)) (da_nil))))))))) (ds_cons ((by first | exact ds_par2 (i := 11) (j := 12) h.c S.nd rfl rfl (by decide) rfl rfl (db_cons (de_call h F_gauss_table (by decide) rfl G.g_gauss_table G.k_gauss_table (da_cons (de_var (i := 3)) (da_cons (de_var (i := 4)) (da_nil)))) (db_cons (de_call h F_back_table (by decide) rfl G.g_back_table G.k_back_table (da_cons (de_var (i := 3)) (da_cons (de_var (i := 4)) (da_nil)))) (db_nil))) (by rfl) | exact ds_parN (is := [11, 12]) h.c (db_cons (de_call h F_gauss_table (by decide) rfl G.g_gauss_table G.k_gauss_table (da_cons (de_var (i := 3)) (da_cons (de_var (i := 4)) (da_nil)))) (db_cons (de_call h F_back_table (by decide) rfl G.g_back_table G.k_back_table (da_cons (de_var (i := 3)) (da_cons (de_var (i := 4)) (da_nil)))) (db_nil))) (pgs_cons (pg_name (i := 11) S.nd rfl (by first | exact .inl rfl | exact .inr rfl)) (pgs_cons (pg_name (i := 12) S.nd rfl (by first | exact .inl rfl | exact .inr rfl)) (pgs_nil))))) (ds_cons (ds_if (dt_w (dw_or (dt_rprN (dt_cmpD (cd_ne h.hK h.hu) (de_bi (id := "repr") (bi_repr h.hK h.g h.hu) rfl G.b_repr (by decide +kernel) (da_cons (de_var (i := 11)) (da_nil))) (de_bi (id := "repr") (bi_repr h.hK h.g h.hu) rfl G.b_repr (by decide +kernel) (da_cons (de_ty (id := "tuple") (bi_tuple h.hK) rfl G.b_tuple (by decide +kernel) (da_cons (de_var (i := 5)) (da_nil))) (da_nil))) nob)) (dw_or1 (dt_rprN (dt_cmpD (cd_ne h.hK h.hu) (de_bi (id := "repr") (bi_repr h.hK h.g h.hu) rfl G.b_repr (by decide +kernel) (da_cons (de_var (i := 12)) (da_nil))) (de_bi (id := "repr") (bi_repr h.hK h.g h.hu) rfl G.b_repr (by decide +kernel) (da_cons (de_ty (id := "tuple") (bi_tuple h.hK) rfl G.b_tuple (by decide +kernel) (da_cons (de_var (i := 6)) (da_nil))) (da_nil))) nob))))) (ds_one (ds_ret (de_bl))) (ds_nil)) (ds_cons ((by first | exact ds_setLc (i := 13) (own := [("i", 7)]) 1 h.c S.nd rfl rfl (by first | rfl | exact sw_true rfl rfl rfl rfl) (di_rng1 (da_cons (de_add h.hK (de_var (i := 3)) (de_int)) (da_nil)) rfl G.b_range) (blkD rfl rfl ⟨rfl, of_decide_eq_true (by kernel_rfl), of_decide_eq_true (by kernel_rfl), of_decide_eq_true (by kernel_rfl), of_decide_eq_true (by kernel_rfl)⟩) (fun s3 H3 C3 l3 p3 => dg_name (i := 7) S.nd rfl (by first | exact .inl rfl | exact .inr rfl)) (fun s3 H3 C3 l3 p3 => dts_nil) (fun s3 H3 C3 l3 p3 => de_lc (own := [("j", 9)]) 0 h.c S.nd (di_rng1 (da_cons (de_add h.hK (de_var (i := 3)) (de_int)) (da_nil)) rfl G.b_range) (blkD rfl rfl ⟨rfl, of_decide_eq_true (by kernel_rfl), of_decide_eq_true (by kernel_rfl), of_decide_eq_true (by kernel_rfl), of_decide_eq_true (by kernel_rfl)⟩) (fun s4 H4 C4 l4 p4 => dg_name (i := 9) S.nd rfl (by first | exact .inl rfl | exact .inr rfl)) (fun s4 H4 C4 l4 p4 => dts_nil) (fun s4 H4 C4 l4 p4 => de_ty (id := "int") (bi_int) rfl G.b_int (by decide +kernel) (da_cons (de_cmpD (cd_eq h.hK h.hu) (de_var (i := 7)) (de_var (i := 9)) nob) (da_nil)))) | exact ds_asg (i := 13) S.nd rfl (by first | exact .inl rfl | exact .inr rfl) (de_lc (own := [("i", 7)]) 1 h.c S.nd (di_rng1 (da_cons (de_add h.hK (de_var (i := 3)) (de_int)) (da_nil)) rfl G.b_range) (blkD rfl rfl ⟨rfl, of_decide_eq_true (by kernel_rfl), of_decide_eq_true (by kernel_rfl), of_decide_eq_true (by kernel_rfl), of_decide_eq_true (by kernel_rfl)⟩) (fun s3 H3 C3 l3 p3 => dg_name (i := 7) S.nd rfl (by first | exact .inl rfl | exact .inr rfl)) (fun s3 H3 C3 l3 p3 => dts_nil) (fun s3 H3 C3 l3 p3 => de_lc (own := [("j", 9)]) 0 h.c S.nd (di_rng1 (da_cons (de_add h.hK (de_var (i := 3)) (de_int)) (da_nil)) rfl G.b_range) (blkD rfl rfl ⟨rfl, of_decide_eq_true (by kernel_rfl), of_decide_eq_true (by kernel_rfl), of_decide_eq_true (by kernel_rfl), of_decide_eq_true (by kernel_rfl)⟩) (fun s4 H4 C4 l4 p4 => dg_name (i := 9) S.nd rfl (by first | exact .inl rfl | exact .inr rfl)) (fun s4 H4 C4 l4 p4 => dts_nil) (fun s4 H4 C4 l4 p4 => de_ty (id := "int") (bi_int) rfl G.b_int (by decide +kernel) (da_cons (de_cmpD (cd_eq h.hK h.hu) (de_var (i := 7)) (de_var (i := 9)) nob) (da_nil))))))) (ds_one (ds_if (dt_w (dw_or (dt_cmpD (cd_ne h.hK h.hu) (de_call h F__law_product_of (by decide) rfl G.g__law_product_of G.k__law_product_of (da_cons (de_var (i := 11)) (da_cons (de_var (i := 12)) (da_nil)))) (de_var (i := 13)) nob) (dw_or1 (dt_cmpD (cd_ne h.hK h.hu) (de_call h F__law_product_of (by decide) rfl G.g__law_product_of G.k__law_product_of (da_cons (de_var (i := 12)) (da_cons (de_var (i := 11)) (da_nil)))) (de_var (i := 13)) nob)))) (ds_one (ds_ret (de_bl))) (ds_nil)))))))))) (ds_cons ((by first | exact ds_par2 (i := 14) (j := 15) h.c S.nd rfl rfl (by decide) rfl rfl (db_cons (de_call h F__law_pick (by decide) rfl G.g__law_pick G.k__law_pick (da_cons (de_var (i := 1)) (da_cons (de_lst (da_cons (de_neg (de_int)) (da_cons (de_int) (da_cons (de_non) (da_cons (de_bl) (da_cons (de_str) (da_nil))))))) (da_nil)))) (db_cons (de_call h F__law_pick (by decide) rfl G.g__law_pick G.k__law_pick (da_cons (de_var (i := 1)) (da_cons (de_lst (da_cons (de_neg (de_int)) (da_cons (de_int) (da_cons (de_non) (da_cons (de_bl) (da_cons (de_str) (da_nil))))))) (da_nil)))) (db_nil))) (by rfl) | exact ds_parN (is := [14, 15]) h.c (db_cons (de_call h F__law_pick (by decide) rfl G.g__law_pick G.k__law_pick (da_cons (de_var (i := 1)) (da_cons (de_lst (da_cons (de_neg (de_int)) (da_cons (de_int) (da_cons (de_non) (da_cons (de_bl) (da_cons (de_str) (da_nil))))))) (da_nil)))) (db_cons (de_call h F__law_pick (by decide) rfl G.g__law_pick G.k__law_pick (da_cons (de_var (i := 1)) (da_cons (de_lst (da_cons (de_neg (de_int)) (da_cons (de_int) (da_cons (de_non) (da_cons (de_bl) (da_cons (de_str) (da_nil))))))) (da_nil)))) (db_nil))) (pgs_cons (pg_name (i := 14) S.nd rfl (by first | exact .inl rfl | exact .inr rfl)) (pgs_cons (pg_name (i := 15) S.nd rfl (by first | exact .inl rfl | exact .inr rfl)) (pgs_nil))))) (ds_cons (ds_asg (i := 16) S.nd rfl (by first | exact .inl rfl | exact .inr rfl) (de_lst (da_cons (de_tup (da_cons (de_lamL (n := 0) TB hcode rfl etb (by rw [ecl]; rfl) (ecq 0) (LamX.lamS_by (sc := defScope s_law) (by decide +kernel)).free) (da_cons (de_tup (da_cons (de_str) (da_cons (de_str) (da_cons (de_var (i := 14)) (da_nil))))) (da_nil)))) (da_nil)))) (ds_cons (ds_append (dp_var (i := 16)) (de_tup (da_cons (de_lamL (n := 1) TB hcode rfl etb (by rw [ecl]; rfl) (ecq 1) (LamX.lamS_by (sc := defScope s_law) (by decide +kernel)).free) (da_cons (de_tup (da_cons (de_str) (da_cons (de_str) (da_cons (de_var (i := 15)) (da_nil))))) (da_nil))))) (ds_cons (ds_append (dp_var (i := 16)) (de_tup (da_cons (de_lamL (n := 2) TB hcode rfl etb (by rw [ecl]; rfl) (ecq 2) (LamX.lamS_by (sc := defScope s_law) (by decide +kernel)).free) (da_cons (de_tup (da_cons (de_str) (da_cons (de_str) (da_cons (de_var (i := 14)) (da_nil))))) (da_nil))))) (ds_cons (ds_append (dp_var (i := 16)) (de_tup (da_cons (de_lamL (n := 3) TB hcode rfl etb (by rw [ecl]; rfl) (ecq 3) (LamX.lamS_by (sc := defScope s_law) (by decide +kernel)).free) (da_cons (de_tup (da_cons (de_str) (da_cons (de_str) (da_cons (de_var (i := 15)) (da_nil))))) (da_nil))))) (ds_one (ds_ret (de_bi (id := "all") (bi_all h.c) rfl G.b_all (by decide +kernel) (da_cons (de_fz (de_lcL (own := [("call", 17), ("due", 5)]) 0 h.c S.nd (di_seq h.hK (de_var (i := 16))) (blkD (N0 := ["script", "pen", "lap", "n", "q", "due", "back", "i", "row", "j", "signed", "one", "two", "units", "low", "odd", "calls", "call"]) (s0 := defScope s_law) rfl rfl ⟨rfl, by decide +kernel, by decide +kernel, by decide +kernel, by decide +kernel⟩) (fun s5 H5 C5 l5 p5 => dg_tup2 (n := 2) h.c h.hK (dgs_cons (dg_name (i := 17) S.nd rfl (by first | exact .inl rfl | exact .inr rfl)) (dgs_cons (dg_name (i := 5) S.nd rfl (by first | exact .inl rfl | exact .inr rfl)) (dgs_nil)))) (fun s5 H5 C5 l5 p5 pins5 τ5 J5 f5 => pe_callLB (own := [("call", 17), ("due", 5)]) J5 f5 S.nd (blkD (N0 := ["script", "pen", "lap", "n", "q", "due", "back", "i", "row", "j", "signed", "one", "two", "units", "low", "odd", "calls", "call"]) (s0 := defScope s_law) rfl rfl ⟨rfl, by decide +kernel, by decide +kernel, by decide +kernel, by decide +kernel⟩) (of_decide_eq_true (by kernel_rfl)) (h.blk s5 H5 _ _ p5) (fun _ => rfl) F__law_is_fault (by decide) rfl G.g__law_is_fault G.k__law_is_fault (da_cons (de_var (i := 17)) (da_cons (de_var (i := 5)) (da_nil))) LM))) (da_nil))))))))))
end
noncomputable section
theorem x__law_draw (m : Int) (p : Option Pen) : FR (drawT m) eI 0 (fm__law_draw [.pen, eI m] p) p := x_draw
@[irreducible] def t__law_gauss (n' : Int) (k' : Int) : E (List Int) := fnT (F := E) (σ := Unit) (κ := Unit) (E.bind (E.ok ([([(1 : Int)] : (List Int))] : (List (List Int)))) fun rows_1 => E.bind (rng2T (1 : Int) (n' + (1 : Int))) fun l702 => bindF (F := E) (forT (F := E) (fun (s461 : (List (List Int))) (x470 : Int) => E.bind (E.ok ([] : (List (List Int)))) fun fresh_471 => E.bind (rng2T (0 : Int) (x470 + (1 : Int))) fun l690 => bindF (F := E) (forT (F := E) (fun (s578 : (List (List Int))) (x584 : Int) => E.bind (E.bind (mulT x584 (x470 - x584)) fun a585 => E.ok (a585 + (1 : Int))) fun wide_586 => E.bind (repT ([(0 : Int)] : (List Int)) wide_586) fun row_587 => bindF (F := E) (bif (decide ((0 : Int) < x584)) then E.bind (E.bind (idxT s461 (x584 - (1 : Int))) fun a610 => E.ok (enumT 0 a610)) fun l631 => bindF (F := E) (forT (F := E) (fun (s620 : (List Int)) (x623 : (Int × Int)) => E.bind (E.bind (idxT s620 x623.1) fun a624 => E.ok (a624 + x623.2)) fun a626 => E.bind (E.ok x623.1) fun a627 => E.bind (setT s620 a627 a626) fun row_625 => E.ok (.nx row_625)) l631 row_587) (fun (s628 : (List Int)) => E.ok (.nx s628)) else E.ok (.nx row_587)) (fun (s632 : (List Int)) => bindF (F := E) (bif (decide (x584 < x470)) then E.bind (E.bind (idxT s461 x584) fun a657 => E.ok (enumT 0 a657)) fun l678 => bindF (F := E) (forT (F := E) (fun (s667 : (List Int)) (x670 : (Int × Int)) => E.bind (E.bind (idxT s667 (x670.1 + x584)) fun a671 => E.ok (a671 + x670.2)) fun a673 => E.bind (E.ok (x670.1 + x584)) fun a674 => E.bind (setT s667 a674 a673) fun row_672 => E.ok (.nx row_672)) l678 s632) (fun (s675 : (List Int)) => E.ok (.nx s675)) else E.ok (.nx s632)) (fun (s679 : (List Int)) => E.bind (E.ok s679) fun a683 => E.bind (putT s578 a683) fun fresh_682 => E.ok (.nx fresh_682)))) l690 fresh_471) (fun (s684 : (List (List Int))) => E.ok (.nx s684))) l702 rows_1) (fun (s691 : (List (List Int))) => E.bind (E.bind (idxT s691 (k')) fun a700 => E.ok a700) fun a701 => E.ok (.ret a701)))
theorem x__law_gauss (n' : Int) (k' : Int) (p : Option Pen) : FR (t__law_gauss n' k') (eT eI) 0 (fm__law_gauss [eI n', eI k'] p) p := by
  delta t__law_gauss
  refine f_fn (I := fun _ _ => True) (K := fun _ _ => True) rfl ?_
  delta m__law_gauss
  refine s_at (ρ := [some ⟨eI (n'), 0⟩, some ⟨eI (k'), 0⟩, none, none, none, none, none, none, none, none]) (by rfl) ?_
  refine s_asg (enc := (eL (eL eI))) (ρ' := fun rows_1 => [some ⟨eI (n'), 0⟩, some ⟨eI (k'), 0⟩, some ⟨(eL (eL eI)) rows_1, 1⟩, none, none, none, none, none, none, none]) (x_pure (enc := (eL (eL eI))) (ev_lst (ev_cons (ev_lst (ev_cons p_num (ev_nil)) (Nat.le_of_ble_eq_true rfl)) (ev_nil)) (Nat.le_of_ble_eq_true rfl))) (Nat.le_of_ble_eq_true rfl) (fun _ => rfl) fun rows_1 _ => ?_
  refine s_for (J := (fun (s : (List (List Int))) ρ => ∃ (o2 : Nat), ∃ (_ : o2 ≤ 1), ∃ (c3 : Option D), ∃ (c4 : Option Cell), ∃ (c5 : Option D), ∃ (c6 : Option D), ∃ (c7 : Option Cell), ∃ (c8 : Option D), ∃ (c9 : Option D), ρ = [some ⟨eI (n'), 0⟩, some ⟨eI (k'), 0⟩, some ⟨(eL (eL eI)) s, o2⟩, Option.map flatC c3, c4, Option.map flatC c5, Option.map flatC c6, c7, Option.map flatC c8, Option.map flatC c9])) (e := eI) (ir_E (w := rng2T (1 : Int) (n' + (1 : Int))) (ev_cons p_num (ev_cons (ev_op (v_0 (i := 0) (d := eI (n')) (by rfl)) p_num o_add) (ev_nil))) (fun _ h => rg_2 h) fun _ _ => rng2T_nx) ⟨_, (by decide), none, _, none, none, _, none, none, rfl⟩ ?_ ?_
  · intro s461 x470 _ _ h; obtain ⟨o462, ho462, c463, c464, c465, c466, c467, c468, c469, rfl⟩ := h
    refine ⟨_, rfl, ?_⟩
    refine s_at (ρ := [some ⟨eI (n'), 0⟩, some ⟨eI (k'), 0⟩, some ⟨(eL (eL eI)) s461, o462⟩, some ⟨eI x470, 0⟩, c464, Option.map flatC c465, Option.map flatC c466, c467, Option.map flatC c468, Option.map flatC c469]) (by rfl) ?_
    refine s_asg (enc := (eL (eL eI))) (ρ' := fun fresh_471 => [some ⟨eI (n'), 0⟩, some ⟨eI (k'), 0⟩, some ⟨(eL (eL eI)) s461, o462⟩, some ⟨eI x470, 0⟩, some ⟨(eL (eL eI)) fresh_471, 1⟩, Option.map flatC c465, Option.map flatC c466, c467, Option.map flatC c468, Option.map flatC c469]) (x_pure (enc := (eL (eL eI))) (ev_lst ev_nil (Nat.le_of_ble_eq_true rfl))) (Nat.le_of_ble_eq_true rfl) (fun _ => rfl) fun fresh_471 _ => ?_
    refine s_for (J := (fun (s : (List (List Int))) ρ => ∃ (c5 : Option D), ∃ (c6 : Option D), ∃ (c7 : Option Cell), ∃ (c8 : Option D), ∃ (c9 : Option D), ρ = [some ⟨eI (n'), 0⟩, some ⟨eI (k'), 0⟩, some ⟨(eL (eL eI)) s461, o462⟩, some ⟨eI x470, 0⟩, some ⟨(eL (eL eI)) s, 1⟩, Option.map flatC c5, Option.map flatC c6, c7, Option.map flatC c8, Option.map flatC c9])) (e := eI) (ir_E (w := rng2T (0 : Int) (x470 + (1 : Int))) (ev_cons (ev_op (v_0 (i := 3) (d := eI x470) (by rfl)) p_num o_add) (ev_nil)) (fun _ h => rg_1 h) fun _ _ => rng2T_nx) ⟨c465, c466, _, c468, c469, rfl⟩ ?_ ?_
    · intro s578 x584 _ _ h; obtain ⟨c579, c580, c581, c582, c583, rfl⟩ := h
      refine ⟨_, rfl, ?_⟩
      refine s_at (ρ := [some ⟨eI (n'), 0⟩, some ⟨eI (k'), 0⟩, some ⟨(eL (eL eI)) s461, o462⟩, some ⟨eI x470, 0⟩, some ⟨(eL (eL eI)) s578, 1⟩, some ⟨eI x584, 0⟩, Option.map flatC c580, c581, Option.map flatC c582, Option.map flatC c583]) (by rfl) ?_
      refine s_asg (enc := eI) (ρ' := fun wide_586 => [some ⟨eI (n'), 0⟩, some ⟨eI (k'), 0⟩, some ⟨(eL (eL eI)) s461, o462⟩, some ⟨eI x470, 0⟩, some ⟨(eL (eL eI)) s578, 1⟩, some ⟨eI x584, 0⟩, some ⟨eI wide_586, 0⟩, c581, Option.map flatC c582, Option.map flatC c583]) (op_xpT (w := fun a585 => (a585 + (1 : Int))) (e3 := eI) (e1 := eI) (op_ppE (w := mulT x584 (x470 - x584)) (e3 := eI) (v_0 (i := 5) (d := eI x584) (by rfl)) (ev_op (v_0 (i := 3) (d := eI x470) (by rfl)) (v_0 (i := 5) (d := eI x584) (by rfl)) o_sub) (fun  _ h => o_mul h) (fun  _ _ => mulT_nx)) (fun _ => p_num) (fun _ => o_add)) (Nat.le_of_ble_eq_true rfl) (fun _ => rfl) fun wide_586 _ => ?_
      refine s_asg (enc := (eL eI)) (ρ' := fun row_587 => [some ⟨eI (n'), 0⟩, some ⟨eI (k'), 0⟩, some ⟨(eL (eL eI)) s461, o462⟩, some ⟨eI x470, 0⟩, some ⟨(eL (eL eI)) s578, 1⟩, some ⟨eI x584, 0⟩, some ⟨eI wide_586, 0⟩, some ⟨(eL eI) row_587, 1⟩, Option.map flatC c582, Option.map flatC c583]) (op_ppE (w := repT ([(0 : Int)] : (List Int)) wide_586) (e3 := (eL eI)) (ev_lst (ev_cons p_num (ev_nil)) (Nat.le_of_ble_eq_true rfl)) (v_0 (i := 6) (d := eI wide_586) (by rfl)) (fun  _ h => o_rep h) (fun  _ _ => repT_nx)) (Nat.le_of_ble_eq_true rfl) (fun _ => rfl) fun row_587 _ => ?_
      refine s_ifS (J := (fun (s : (List Int)) ρ => ∃ (c8 : Option D), ∃ (c9 : Option D), ρ = [some ⟨eI (n'), 0⟩, some ⟨eI (k'), 0⟩, some ⟨(eL (eL eI)) s461, o462⟩, some ⟨eI x470, 0⟩, some ⟨(eL (eL eI)) s578, 1⟩, some ⟨eI x584, 0⟩, some ⟨eI wide_586, 0⟩, some ⟨(eL eI) s, 1⟩, Option.map flatC c8, Option.map flatC c9])) (ev_op (v_0 (i := 5) (d := eI x584) (by rfl)) p_num o_gt) rfl ?_ ?_ ?_
      · refine s_of ?_
        refine s_for (J := (fun (s : (List Int)) ρ => ∃ (c8 : Option D), ∃ (c9 : Option D), ρ = [some ⟨eI (n'), 0⟩, some ⟨eI (k'), 0⟩, some ⟨(eL (eL eI)) s461, o462⟩, some ⟨eI x470, 0⟩, some ⟨(eL (eL eI)) s578, 1⟩, some ⟨eI x584, 0⟩, some ⟨eI wide_586, 0⟩, some ⟨(eL eI) s, 1⟩, Option.map flatC c8, Option.map flatC c9])) (e := (eP2 eI eI)) (li_x (op_ppE (w := idxT s461 (x584 - (1 : Int))) (e3 := (eL eI)) (v_u (i := 2) (d := (eL (eL eI)) s461) (o := o462) (by rfl) ho462) (ev_op (v_0 (i := 5) (d := eI x584) (by rfl)) p_num o_sub) (fun  _ h => o_idxL h) (fun  _ _ => idxT_nx)) fun a610 q611 => li_nil (li_P en_of2)) ⟨c582, c583, rfl⟩ ?_ ?_
        · intro s620 x623 _ _ h; obtain ⟨c621, c622, rfl⟩ := h
          refine ⟨_, rfl, ?_⟩
          refine s_at (ρ := [some ⟨eI (n'), 0⟩, some ⟨eI (k'), 0⟩, some ⟨(eL (eL eI)) s461, o462⟩, some ⟨eI x470, 0⟩, some ⟨(eL (eL eI)) s578, 1⟩, some ⟨eI x584, 0⟩, some ⟨eI wide_586, 0⟩, some ⟨(eL eI) s620, 1⟩, some ⟨eI x623.1, 0⟩, some ⟨eI x623.2, 0⟩]) (by rfl) ?_
          refine s_of ?_
          refine s_set (enc := eI) (xs := s620) (js := []) (ρ' := fun row_625 => [some ⟨eI (n'), 0⟩, some ⟨eI (k'), 0⟩, some ⟨(eL (eL eI)) s461, o462⟩, some ⟨eI x470, 0⟩, some ⟨(eL (eL eI)) s578, 1⟩, some ⟨eI x584, 0⟩, some ⟨eI wide_586, 0⟩, some ⟨(eL eI) row_625, 1⟩, some ⟨eI x623.1, 0⟩, some ⟨eI x623.2, 0⟩]) (op_xpT (w := fun a624 => (a624 + x623.2)) (e3 := eI) (e1 := eI) (op_ppE (w := idxT s620 x623.1) (e3 := eI) (v_1 (i := 7) (d := (eL eI) s620) (by rfl)) (v_0 (i := 8) (d := eI x623.1) (by rfl)) (fun  _ h => o_idxL h) (fun  _ _ => idxT_nx)) (fun _ => (v_0 (i := 9) (d := eI x623.2) (by rfl))) (fun _ => o_add)) (fun _ => (x_pure (enc := eI) (v_0 (i := 8) (d := eI x623.1) (by rfl)))) rfl (fun _ => frL_lf ((inferInstance : LF eI).lf _)) rfl (fun _ => rfl) fun row_625 _ => ?_
          exact s_end ⟨some (eI x623.1), some (eI x623.2), rfl⟩
        intro s628 _ _ h; obtain ⟨c629, c630, rfl⟩ := h
        exact s_end ⟨c629, c630, rfl⟩
      · exact s_end ⟨c582, c583, rfl⟩
      intro s632 _ _ h; obtain ⟨c633, c634, rfl⟩ := h
      refine s_ifS (J := (fun (s : (List Int)) ρ => ∃ (c8 : Option D), ∃ (c9 : Option D), ρ = [some ⟨eI (n'), 0⟩, some ⟨eI (k'), 0⟩, some ⟨(eL (eL eI)) s461, o462⟩, some ⟨eI x470, 0⟩, some ⟨(eL (eL eI)) s578, 1⟩, some ⟨eI x584, 0⟩, some ⟨eI wide_586, 0⟩, some ⟨(eL eI) s, 1⟩, Option.map flatC c8, Option.map flatC c9])) (ev_op (v_0 (i := 5) (d := eI x584) (by rfl)) (v_0 (i := 3) (d := eI x470) (by rfl)) o_lt) rfl ?_ ?_ ?_
      · refine s_of ?_
        refine s_for (J := (fun (s : (List Int)) ρ => ∃ (c8 : Option D), ∃ (c9 : Option D), ρ = [some ⟨eI (n'), 0⟩, some ⟨eI (k'), 0⟩, some ⟨(eL (eL eI)) s461, o462⟩, some ⟨eI x470, 0⟩, some ⟨(eL (eL eI)) s578, 1⟩, some ⟨eI x584, 0⟩, some ⟨eI wide_586, 0⟩, some ⟨(eL eI) s, 1⟩, Option.map flatC c8, Option.map flatC c9])) (e := (eP2 eI eI)) (li_x (op_ppE (w := idxT s461 x584) (e3 := (eL eI)) (v_u (i := 2) (d := (eL (eL eI)) s461) (o := o462) (by rfl) ho462) (v_0 (i := 5) (d := eI x584) (by rfl)) (fun  _ h => o_idxL h) (fun  _ _ => idxT_nx)) fun a657 q658 => li_nil (li_P en_of2)) ⟨c633, c634, rfl⟩ ?_ ?_
        · intro s667 x670 _ _ h; obtain ⟨c668, c669, rfl⟩ := h
          refine ⟨_, rfl, ?_⟩
          refine s_at (ρ := [some ⟨eI (n'), 0⟩, some ⟨eI (k'), 0⟩, some ⟨(eL (eL eI)) s461, o462⟩, some ⟨eI x470, 0⟩, some ⟨(eL (eL eI)) s578, 1⟩, some ⟨eI x584, 0⟩, some ⟨eI wide_586, 0⟩, some ⟨(eL eI) s667, 1⟩, some ⟨eI x670.1, 0⟩, some ⟨eI x670.2, 0⟩]) (by rfl) ?_
          refine s_of ?_
          refine s_set (enc := eI) (xs := s667) (js := []) (ρ' := fun row_672 => [some ⟨eI (n'), 0⟩, some ⟨eI (k'), 0⟩, some ⟨(eL (eL eI)) s461, o462⟩, some ⟨eI x470, 0⟩, some ⟨(eL (eL eI)) s578, 1⟩, some ⟨eI x584, 0⟩, some ⟨eI wide_586, 0⟩, some ⟨(eL eI) row_672, 1⟩, some ⟨eI x670.1, 0⟩, some ⟨eI x670.2, 0⟩]) (op_xpT (w := fun a671 => (a671 + x670.2)) (e3 := eI) (e1 := eI) (op_ppE (w := idxT s667 (x670.1 + x584)) (e3 := eI) (v_1 (i := 7) (d := (eL eI) s667) (by rfl)) (ev_op (v_0 (i := 8) (d := eI x670.1) (by rfl)) (v_0 (i := 5) (d := eI x584) (by rfl)) o_add) (fun  _ h => o_idxL h) (fun  _ _ => idxT_nx)) (fun _ => (v_0 (i := 9) (d := eI x670.2) (by rfl))) (fun _ => o_add)) (fun _ => (x_pure (enc := eI) (ev_op (v_0 (i := 8) (d := eI x670.1) (by rfl)) (v_0 (i := 5) (d := eI x584) (by rfl)) o_add))) rfl (fun _ => frL_lf ((inferInstance : LF eI).lf _)) rfl (fun _ => rfl) fun row_672 _ => ?_
          exact s_end ⟨some (eI x670.1), some (eI x670.2), rfl⟩
        intro s675 _ _ h; obtain ⟨c676, c677, rfl⟩ := h
        exact s_end ⟨c676, c677, rfl⟩
      · exact s_end ⟨c633, c634, rfl⟩
      intro s679 _ _ h; obtain ⟨c680, c681, rfl⟩ := h
      refine s_of ?_
      refine s_app (enc := (eL eI)) (xs := s578) (js := [7]) (ρ' := fun fresh_682 => [some ⟨eI (n'), 0⟩, some ⟨eI (k'), 0⟩, some ⟨(eL (eL eI)) s461, o462⟩, some ⟨eI x470, 0⟩, some ⟨(eL (eL eI)) fresh_682, 1⟩, some ⟨eI x584, 0⟩, some ⟨eI wide_586, 0⟩, some ⟨(eL eI) s679, 0⟩, Option.map flatC c680, Option.map flatC c681]) (x_pure (enc := (eL eI)) (v_1 (i := 7) (d := (eL eI) s679) (by rfl))) rfl (fun _ => rfl) rfl (fun _ => rfl) fun fresh_682 _ => ?_
      exact s_end ⟨some (eI x584), some (eI wide_586), _, c680, c681, rfl⟩
    intro s684 _ _ h; obtain ⟨c685, c686, c687, c688, c689, rfl⟩ := h
    refine s_of ?_
    refine s_asgP (enc := (eL (eL eI))) (ρ' := [some ⟨eI (n'), 0⟩, some ⟨eI (k'), 0⟩, some ⟨(eL (eL eI)) s684, 0⟩, some ⟨eI x470, 0⟩, some ⟨(eL (eL eI)) s684, 0⟩, Option.map flatC c685, Option.map flatC c686, c687, Option.map flatC c688, Option.map flatC c689]) (v_1 (i := 4) (d := (eL (eL eI)) s684) (by rfl)) (Nat.le_of_ble_eq_true rfl) rfl ?_
    exact s_end ⟨_, (by decide), some (eI x470), _, c685, c686, _, c688, c689, rfl⟩
  intro s691 _ _ h; obtain ⟨o692, ho692, c693, c694, c695, c696, c697, c698, c699, rfl⟩ := h
  refine s_of ?_
  exact s_retX (cb_xT (w := fun a700 => a700) (e3 := (eT eI)) (e1 := (eL eI)) (op_ppE (w := idxT s691 (k')) (e3 := (eL eI)) (v_u (i := 2) (d := (eL (eL eI)) s691) (o := o692) (by rfl) ho692) (v_0 (i := 1) (d := eI (k')) (by rfl)) (fun  _ h => o_idxL h) (fun  _ _ => idxT_nx)) (fun _ => o_tupL))
@[irreducible] def t__law_worth (row' : (List Int)) (q' : Int) : E Int := fnT (F := E) (σ := Unit) (κ := Unit) (bindF (F := E) (forT (F := E) (fun (s6 : Int) (x8 : Int) => E.bind (E.bind (mulT s6 (q')) fun a9 => E.ok (a9 + x8)) fun total_10 => E.ok (.nx total_10)) ((row').reverse) (0 : Int)) (fun (s11 : Int) => E.ok (.ret s11)))
theorem x__law_worth (row' : (List Int)) (q' : Int) (p : Option Pen) : FR (t__law_worth row' q') eI 0 (fm__law_worth [(eT eI) row', eI q'] p) p := by
  delta t__law_worth
  refine f_fn (I := fun _ _ => True) (K := fun _ _ => True) rfl ?_
  delta m__law_worth
  refine s_at (ρ := [some ⟨(eT eI) (row'), 0⟩, some ⟨eI (q'), 0⟩, none, none]) (by rfl) ?_
  refine s_asgP (enc := eI) (ρ' := [some ⟨(eT eI) (row'), 0⟩, some ⟨eI (q'), 0⟩, some ⟨eI (0 : Int), 0⟩, none]) p_num (Nat.le_of_ble_eq_true rfl) rfl ?_
  refine s_forP (J := (fun (s : Int) ρ => ∃ (c3 : Option D), ρ = [some ⟨(eT eI) (row'), 0⟩, some ⟨eI (q'), 0⟩, some ⟨eI s, 0⟩, Option.map flatC c3])) (enc := eI) (iv_T (enc := eI) (ev_un (v_0 (i := 0) (d := (eT eI) (row')) (by rfl)) (o_revT (e := eI)))) ⟨none, rfl⟩ ?_ ?_
  · intro s6 x8 _ _ h; obtain ⟨c7, rfl⟩ := h
    refine ⟨_, rfl, ?_⟩
    refine s_at (ρ := [some ⟨(eT eI) (row'), 0⟩, some ⟨eI (q'), 0⟩, some ⟨eI s6, 0⟩, some ⟨eI x8, 0⟩]) (by rfl) ?_
    refine s_of ?_
    refine s_asg (enc := eI) (ρ' := fun total_10 => [some ⟨(eT eI) (row'), 0⟩, some ⟨eI (q'), 0⟩, some ⟨eI total_10, 0⟩, some ⟨eI x8, 0⟩]) (op_xpT (w := fun a9 => (a9 + x8)) (e3 := eI) (e1 := eI) (op_ppE (w := mulT s6 (q')) (e3 := eI) (v_0 (i := 2) (d := eI s6) (by rfl)) (v_0 (i := 1) (d := eI (q')) (by rfl)) (fun  _ h => o_mul h) (fun  _ _ => mulT_nx)) (fun _ => (v_0 (i := 3) (d := eI x8) (by rfl))) (fun _ => o_add)) (Nat.le_of_ble_eq_true rfl) (fun _ => rfl) fun total_10 _ => ?_
    exact s_end ⟨some (eI x8), rfl⟩
  intro s11 _ _ h; obtain ⟨c12, rfl⟩ := h
  refine s_of ?_
  exact s_retV (er := eI) (by rfl)
@[irreducible] def t__law_power (q' : Int) (many' : Int) : E Int := fnT (F := E) (σ := Unit) (κ := Unit) (E.bind (rng2T (0 : Int) (many')) fun l11 => bindF (F := E) (forT (F := E) (fun (s5 : Int) (x7 : Int) => E.bind (mulT s5 (q')) fun found_8 => E.ok (.nx found_8)) l11 (1 : Int)) (fun (s9 : Int) => E.ok (.ret s9)))
theorem x__law_power (q' : Int) (many' : Int) (p : Option Pen) : FR (t__law_power q' many') eI 0 (fm__law_power [eI q', eI many'] p) p := by
  delta t__law_power
  refine f_fn (I := fun _ _ => True) (K := fun _ _ => True) rfl ?_
  delta m__law_power
  refine s_at (ρ := [some ⟨eI (q'), 0⟩, some ⟨eI (many'), 0⟩, none, none]) (by rfl) ?_
  refine s_asgP (enc := eI) (ρ' := [some ⟨eI (q'), 0⟩, some ⟨eI (many'), 0⟩, some ⟨eI (1 : Int), 0⟩, none]) p_num (Nat.le_of_ble_eq_true rfl) rfl ?_
  refine s_for (J := (fun (s : Int) ρ => ∃ (c3 : Option D), ρ = [some ⟨eI (q'), 0⟩, some ⟨eI (many'), 0⟩, some ⟨eI s, 0⟩, Option.map flatC c3])) (e := eI) (ir_E (w := rng2T (0 : Int) (many')) (ev_cons (v_0 (i := 1) (d := eI (many')) (by rfl)) (ev_nil)) (fun _ h => rg_1 h) fun _ _ => rng2T_nx) ⟨none, rfl⟩ ?_ ?_
  · intro s5 x7 _ _ h; obtain ⟨c6, rfl⟩ := h
    refine ⟨_, rfl, ?_⟩
    refine s_at (ρ := [some ⟨eI (q'), 0⟩, some ⟨eI (many'), 0⟩, some ⟨eI s5, 0⟩, some ⟨eI x7, 0⟩]) (by rfl) ?_
    refine s_of ?_
    refine s_asg (enc := eI) (ρ' := fun found_8 => [some ⟨eI (q'), 0⟩, some ⟨eI (many'), 0⟩, some ⟨eI found_8, 0⟩, some ⟨eI x7, 0⟩]) (op_ppE (w := mulT s5 (q')) (e3 := eI) (v_0 (i := 2) (d := eI s5) (by rfl)) (v_0 (i := 0) (d := eI (q')) (by rfl)) (fun  _ h => o_mul h) (fun  _ _ => mulT_nx)) (Nat.le_of_ble_eq_true rfl) (fun _ => rfl) fun found_8 _ => ?_
    exact s_end ⟨some (eI x7), rfl⟩
  intro s9 _ _ h; obtain ⟨c10, rfl⟩ := h
  refine s_of ?_
  exact s_retV (er := eI) (by rfl)
@[irreducible] def t_is_whole (value' : Int) : E Bool := fnT (F := E) (σ := Unit) (κ := Unit) (E.ok (.ret (true && (!false))))
theorem x_is_whole (value' : Int) (p : Option Pen) : FR (t_is_whole value') eB 0 (fm_is_whole [eI value'] p) p := by
  delta t_is_whole
  refine f_fn (I := fun _ _ => True) (K := fun _ _ => True) rfl ?_
  delta m_is_whole
  refine s_at (ρ := [some ⟨eI (value'), 0⟩]) (by rfl) ?_
  refine s_of ?_
  exact s_retP (er := eB) (ev_and (ev_cb (ev_cons (v_0 (i := 0) (d := eI (value')) (by rfl)) (ev_cons p_d ev_nil)) (isi_of (v := true) rfl (by decide +kernel))) (ev_not (ev_cb (ev_cons (v_0 (i := 0) (d := eI (value')) (by rfl)) (ev_cons p_d ev_nil)) (isi_of (v := false) rfl (by decide +kernel))) rfl))
@[irreducible] def t_need_between (what' : Str) (number' : Int) (low' : Int) (high' : Int) : E Unit := fnN () (F := E) (σ := Unit) (κ := Unit) (E.bind (E.bind (t_is_whole (number')) fun a1 => E.ok (!a1)) fun a2 => bif a2 then .exc 0 [eI (number'), eS (what')] else bif ((true && (decide (number' < low'))) || (true && (decide (high' < number')))) then .exc 0 [eI (number'), eS (what')] else E.ok (.nx ()))
theorem x_need_between (what' : Str) (number' : Int) (low' : Int) (high' : Int) (p : Option Pen) : FR (t_need_between what' number' low' high') eN 0 (fm_need_between [eS what', eI number', eI low', eI high'] p) p := by
  delta t_need_between
  refine f_fnN (I := fun _ _ => True) (K := fun _ _ => True) rfl rfl rfl ?_
  delta m_need_between
  refine s_at (ρ := [some ⟨eS (what'), 0⟩, some ⟨eI (number'), 0⟩, some ⟨eI (low'), 0⟩, some ⟨eI (high'), 0⟩]) (by rfl) ?_
  refine s_ifO (c_x (x_not (c_x (l_p (v_0 (i := 1) (d := eI (number')) (by rfl)) (l_nil (n_call (lo := []) (x_is_whole (number') _))))))) (fun _ => ?_) (fun _ => ?_)
  · refine s_of ?_
    exact s_raiseP (ev_cons (v_0 (i := 0) (d := eS (what')) (by rfl)) (ev_cons (v_0 (i := 1) (d := eI (number')) (by rfl)) (ev_nil))) rfl rfl
  refine s_pass ?_
  refine s_of ?_
  refine s_ifSO (ev_or (ev_and (ev_op (v_0 (i := 2) (d := eI (low')) (by rfl)) p_non rfl) (ev_op (v_0 (i := 1) (d := eI (number')) (by rfl)) (v_0 (i := 2) (d := eI (low')) (by rfl)) o_lt)) (ev_and (ev_op (v_0 (i := 3) (d := eI (high')) (by rfl)) p_non rfl) (ev_op (v_0 (i := 1) (d := eI (number')) (by rfl)) (v_0 (i := 3) (d := eI (high')) (by rfl)) o_gt))) rfl ?_ ?_
  · refine s_of ?_
    exact s_raiseP (ev_cons (v_0 (i := 0) (d := eS (what')) (by rfl)) (ev_cons (v_0 (i := 1) (d := eI (number')) (by rfl)) (ev_nil))) rfl rfl
  refine s_pass ?_
  exact s_end trivial
@[irreducible] def t_need_table (n' : Int) (q' : Int) : E Unit := fnN () (F := E) (σ := Unit) (κ := Unit) (E.bind (t_need_between ("n" : Str) (n') (0 : Int) (8 : Int)) fun _ => E.bind (t_need_between ("q" : Str) (q') (0 : Int) (9 : Int)) fun _ => E.ok (.nx ()))
theorem x_need_table (n' : Int) (q' : Int) (p : Option Pen) : FR (t_need_table n' q') eN 0 (fm_need_table [eI n', eI q'] p) p := by
  delta t_need_table
  refine f_fnN (I := fun _ _ => True) (K := fun _ _ => True) rfl rfl rfl ?_
  delta m_need_table
  refine s_at (ρ := [some ⟨eI (n'), 0⟩, some ⟨eI (q'), 0⟩]) (by rfl) ?_
  refine s_drop (l_p p_str (l_p (v_0 (i := 0) (d := eI (n')) (by rfl)) (l_p p_num (l_p p_num (l_nil (n_call (lo := []) (x_need_between ("n" : Str) (n') (0 : Int) (8 : Int) _))))))) fun _ _ => ?_
  refine s_of ?_
  refine s_drop (l_p p_str (l_p (v_0 (i := 1) (d := eI (q')) (by rfl)) (l_p p_num (l_p p_num (l_nil (n_call (lo := []) (x_need_between ("q" : Str) (q') (0 : Int) (9 : Int) _))))))) fun _ _ => ?_
  exact s_end trivial
@[irreducible] def t_put_later (one' : (List Int)) (other' : (List Int)) (places' : Int) : E (List Int) := fnT (F := E) (σ := Unit) (κ := Unit) (E.bind (E.ok (maxT ((one').length : Int) (((other').length : Int) + places'))) fun wide_1 => E.bind (E.bind (repT ([(0 : Int)] : (List Int)) (wide_1 - ((one').length : Int))) fun a2 => appT (one') a2) fun first_3 => E.bind (E.bind (E.bind (repT ([(0 : Int)] : (List Int)) (places')) fun a4 => appT a4 (other')) fun a5 => E.bind (repT ([(0 : Int)] : (List Int)) ((wide_1 - places') - ((other').length : Int))) fun a6 => appT a5 a6) fun second_7 => E.bind (limT (List.map (fun x8 => (x8.1 + x8.2)) (List.zip first_3 second_7))) fun a9 => E.ok (.ret a9))
theorem x_put_later (one' : (List Int)) (other' : (List Int)) (places' : Int) (p : Option Pen) : FR (t_put_later one' other' places') (eL eI) 1 (fm_put_later [(eL eI) one', (eL eI) other', eI places'] p) p := by
  delta t_put_later
  refine f_fn (I := fun _ _ => True) (K := fun _ _ => True) rfl ?_
  delta m_put_later
  refine s_at (ρ := [some ⟨(eL eI) (one'), 0⟩, some ⟨(eL eI) (other'), 0⟩, some ⟨eI (places'), 0⟩, none, none, none, none, none]) (by rfl) ?_
  refine s_asg (enc := eI) (ρ' := fun wide_1 => [some ⟨(eL eI) (one'), 0⟩, some ⟨(eL eI) (other'), 0⟩, some ⟨eI (places'), 0⟩, some ⟨eI wide_1, 0⟩, none, none, none, none]) (x_pure (enc := eI) (ev_cb (ev_cons (ev_cb (ev_cons (v_0 (i := 0) (d := (eL eI) (one')) (by rfl)) ev_nil) o_lenL) (ev_cons (ev_op (ev_cb (ev_cons (v_0 (i := 1) (d := (eL eI) (other')) (by rfl)) ev_nil) o_lenL) (v_0 (i := 2) (d := eI (places')) (by rfl)) o_add) (ev_nil))) o_max2)) (Nat.le_of_ble_eq_true rfl) (fun _ => rfl) fun wide_1 _ => ?_
  refine s_asg (enc := (eL eI)) (ρ' := fun first_3 => [some ⟨(eL eI) (one'), 0⟩, some ⟨(eL eI) (other'), 0⟩, some ⟨eI (places'), 0⟩, some ⟨eI wide_1, 0⟩, some ⟨(eL eI) first_3, 1⟩, none, none, none]) (op_pxE (w := fun a2 => appT (one') a2) (e3 := (eL eI)) (e2 := (eL eI)) (ev_cb (ev_cons (v_0 (i := 0) (d := (eL eI) (one')) (by rfl)) ev_nil) o_listL) (op_ppE (w := repT ([(0 : Int)] : (List Int)) (wide_1 - ((one').length : Int))) (e3 := (eL eI)) (ev_lst (ev_cons p_num (ev_nil)) (Nat.le_of_ble_eq_true rfl)) (ev_op (v_0 (i := 3) (d := eI wide_1) (by rfl)) (ev_cb (ev_cons (v_0 (i := 0) (d := (eL eI) (one')) (by rfl)) ev_nil) o_lenL) o_sub) (fun  _ h => o_rep h) (fun  _ _ => repT_nx)) (fun _ _ h => o_addL h) (fun _ _ _ => appT_nx)) (Nat.le_of_ble_eq_true rfl) (fun _ => rfl) fun first_3 _ => ?_
  refine s_asg (enc := (eL eI)) (ρ' := fun second_7 => [some ⟨(eL eI) (one'), 0⟩, some ⟨(eL eI) (other'), 0⟩, some ⟨eI (places'), 0⟩, some ⟨eI wide_1, 0⟩, some ⟨(eL eI) first_3, 1⟩, some ⟨(eL eI) second_7, 1⟩, none, none]) (op_xxE (w := fun a5 a6 => appT a5 a6) (e3 := (eL eI)) (e1 := (eL eI)) (e2 := (eL eI)) (op_xpE (w := fun a4 => appT a4 (other')) (e3 := (eL eI)) (e1 := (eL eI)) (op_ppE (w := repT ([(0 : Int)] : (List Int)) (places')) (e3 := (eL eI)) (ev_lst (ev_cons p_num (ev_nil)) (Nat.le_of_ble_eq_true rfl)) (v_0 (i := 2) (d := eI (places')) (by rfl)) (fun  _ h => o_rep h) (fun  _ _ => repT_nx)) (fun _ => (ev_cb (ev_cons (v_0 (i := 1) (d := (eL eI) (other')) (by rfl)) ev_nil) o_listL)) (fun _ _ h => o_addL h) (fun _ _ _ => appT_nx)) (fun _ => (op_ppE (w := repT ([(0 : Int)] : (List Int)) ((wide_1 - places') - ((other').length : Int))) (e3 := (eL eI)) (ev_lst (ev_cons p_num (ev_nil)) (Nat.le_of_ble_eq_true rfl)) (ev_op (ev_op (v_0 (i := 3) (d := eI wide_1) (by rfl)) (v_0 (i := 2) (d := eI (places')) (by rfl)) o_sub) (ev_cb (ev_cons (v_0 (i := 1) (d := (eL eI) (other')) (by rfl)) ev_nil) o_lenL) o_sub) (fun  _ h => o_rep h) (fun  _ _ => repT_nx))) (fun _ _ _ h => o_addL h) (fun _ _ _ _ => appT_nx)) (Nat.le_of_ble_eq_true rfl) (fun _ => rfl) fun second_7 _ => ?_
  refine s_of ?_
  exact s_retX (x_lcW0 (ρ1 := fun x8 => [some ⟨(eL eI) (one'), 0⟩, some ⟨(eL eI) (other'), 0⟩, some ⟨eI (places'), 0⟩, some ⟨eI wide_1, 0⟩, some ⟨(eL eI) first_3, 0⟩, some ⟨(eL eI) second_7, 0⟩, some ⟨eI x8.1, 0⟩, some ⟨eI x8.2, 0⟩]) (e := (eP2 eI eI)) (e' := eI) (v := fun x8 => (x8.1 + x8.2))  (iv_op (ev_cons (v_1 (i := 4) (d := (eL eI) first_3) (by rfl)) (ev_cons (v_1 (i := 5) (d := (eL eI) second_7) (by rfl)) (ev_nil))) zp_L) (by rfl) (fun _ => rfl)  (fun x8 _ => (ev_op (v_0 (i := 6) (d := eI x8.1) (by rfl)) (v_0 (i := 7) (d := eI x8.2) (by rfl)) o_add)) (by decide))
@[irreducible] def t_gauss_rows (n' : Int) : E (List (List Int)) := fnT (F := E) (σ := Unit) (κ := Unit) (E.bind (E.ok ([([(1 : Int)] : (List Int))] : (List (List Int)))) fun rows_1 => E.bind (rng2T (1 : Int) (n' + (1 : Int))) fun l62 => bindF (F := E) (forT (F := E) (fun (s30 : (List (List Int))) (x34 : Int) => E.bind (E.ok ([([(1 : Int)] : (List Int))] : (List (List Int)))) fun fresh_35 => E.bind (rng2T (1 : Int) x34) fun l57 => bindF (F := E) (forT (F := E) (fun (s45 : (List (List Int))) (x47 : Int) => E.bind (E.bind (idxT s30 (x47 - (1 : Int))) fun a48 => E.bind (idxT s30 x47) fun a49 => t_put_later a48 a49 x47) fun a53 => E.bind (putT s45 a53) fun fresh_52 => E.ok (.nx fresh_52)) l57 fresh_35) (fun (s54 : (List (List Int))) => E.bind (appT s54 ([([(1 : Int)] : (List Int))] : (List (List Int)))) fun rows_56 => E.ok (.nx rows_56))) l62 rows_1) (fun (s58 : (List (List Int))) => E.ok (.ret s58)))
theorem x_gauss_rows (n' : Int) (p : Option Pen) : FR (t_gauss_rows n') (eL (eL eI)) 1 (fm_gauss_rows [eI n'] p) p := by
  delta t_gauss_rows
  refine f_fn (I := fun _ _ => True) (K := fun _ _ => True) rfl ?_
  delta m_gauss_rows
  refine s_at (ρ := [some ⟨eI (n'), 0⟩, none, none, none, none]) (by rfl) ?_
  refine s_asg (enc := (eL (eL eI))) (ρ' := fun rows_1 => [some ⟨eI (n'), 0⟩, some ⟨(eL (eL eI)) rows_1, 1⟩, none, none, none]) (x_pure (enc := (eL (eL eI))) (ev_lst (ev_cons (ev_lst (ev_cons p_num (ev_nil)) (Nat.le_of_ble_eq_true rfl)) (ev_nil)) (Nat.le_of_ble_eq_true rfl))) (Nat.le_of_ble_eq_true rfl) (fun _ => rfl) fun rows_1 _ => ?_
  refine s_for (J := (fun (s : (List (List Int))) ρ => ∃ (c2 : Option D), ∃ (c3 : Option Cell), ∃ (c4 : Option D), ρ = [some ⟨eI (n'), 0⟩, some ⟨(eL (eL eI)) s, 1⟩, Option.map flatC c2, c3, Option.map flatC c4])) (e := eI) (ir_E (w := rng2T (1 : Int) (n' + (1 : Int))) (ev_cons p_num (ev_cons (ev_op (v_0 (i := 0) (d := eI (n')) (by rfl)) p_num o_add) (ev_nil))) (fun _ h => rg_2 h) fun _ _ => rng2T_nx) ⟨none, _, none, rfl⟩ ?_ ?_
  · intro s30 x34 _ _ h; obtain ⟨c31, c32, c33, rfl⟩ := h
    refine ⟨_, rfl, ?_⟩
    refine s_at (ρ := [some ⟨eI (n'), 0⟩, some ⟨(eL (eL eI)) s30, 1⟩, some ⟨eI x34, 0⟩, c32, Option.map flatC c33]) (by rfl) ?_
    refine s_asg (enc := (eL (eL eI))) (ρ' := fun fresh_35 => [some ⟨eI (n'), 0⟩, some ⟨(eL (eL eI)) s30, 1⟩, some ⟨eI x34, 0⟩, some ⟨(eL (eL eI)) fresh_35, 1⟩, Option.map flatC c33]) (x_pure (enc := (eL (eL eI))) (ev_lst (ev_cons (ev_lst (ev_cons p_num (ev_nil)) (Nat.le_of_ble_eq_true rfl)) (ev_nil)) (Nat.le_of_ble_eq_true rfl))) (Nat.le_of_ble_eq_true rfl) (fun _ => rfl) fun fresh_35 _ => ?_
    refine s_for (J := (fun (s : (List (List Int))) ρ => ∃ (c4 : Option D), ρ = [some ⟨eI (n'), 0⟩, some ⟨(eL (eL eI)) s30, 1⟩, some ⟨eI x34, 0⟩, some ⟨(eL (eL eI)) s, 1⟩, Option.map flatC c4])) (e := eI) (ir_E (w := rng2T (1 : Int) x34) (ev_cons p_num (ev_cons (v_0 (i := 2) (d := eI x34) (by rfl)) (ev_nil))) (fun _ h => rg_2 h) fun _ _ => rng2T_nx) ⟨c33, rfl⟩ ?_ ?_
    · intro s45 x47 _ _ h; obtain ⟨c46, rfl⟩ := h
      refine ⟨_, rfl, ?_⟩
      refine s_at (ρ := [some ⟨eI (n'), 0⟩, some ⟨(eL (eL eI)) s30, 1⟩, some ⟨eI x34, 0⟩, some ⟨(eL (eL eI)) s45, 1⟩, some ⟨eI x47, 0⟩]) (by rfl) ?_
      refine s_of ?_
      refine s_app (enc := (eL eI)) (xs := s45) (js := []) (ρ' := fun fresh_52 => [some ⟨eI (n'), 0⟩, some ⟨(eL (eL eI)) s30, 1⟩, some ⟨eI x34, 0⟩, some ⟨(eL (eL eI)) fresh_52, 1⟩, some ⟨eI x47, 0⟩]) (l_x (op_ppE (w := idxT s30 (x47 - (1 : Int))) (e3 := (eL eI)) (v_1 (i := 1) (d := (eL (eL eI)) s30) (by rfl)) (ev_op (v_0 (i := 4) (d := eI x47) (by rfl)) p_num o_sub) (fun  _ h => o_idxL h) (fun  _ _ => idxT_nx)) fun a48 q51 => l_x (op_ppE (w := idxT s30 x47) (e3 := (eL eI)) (v_1 (i := 1) (d := (eL (eL eI)) s30) (by rfl)) (v_0 (i := 4) (d := eI x47) (by rfl)) (fun  _ h => o_idxL h) (fun  _ _ => idxT_nx)) fun a49 q50 => l_p (v_0 (i := 4) (d := eI x47) (by rfl)) (l_nil (n_call (lo := []) (x_put_later a48 a49 x47 _)))) rfl (fun _ => frL_no) rfl (fun _ => rfl) fun fresh_52 _ => ?_
      exact s_end ⟨some (eI x47), rfl⟩
    intro s54 _ _ h; obtain ⟨c55, rfl⟩ := h
    refine s_of ?_
    refine s_asg (enc := (eL (eL eI))) (ρ' := fun rows_56 => [some ⟨eI (n'), 0⟩, some ⟨(eL (eL eI)) rows_56, 1⟩, some ⟨eI x34, 0⟩, some ⟨(eL (eL eI)) s54, 1⟩, Option.map flatC c55]) (op_ppE (w := appT s54 ([([(1 : Int)] : (List Int))] : (List (List Int)))) (e3 := (eL (eL eI))) (v_1 (i := 3) (d := (eL (eL eI)) s54) (by rfl)) (ev_lst (ev_cons (ev_lst (ev_cons p_num (ev_nil)) (Nat.le_of_ble_eq_true rfl)) (ev_nil)) (Nat.le_of_ble_eq_true rfl)) (fun  _ h => o_addL h) (fun  _ _ => appT_nx)) (Nat.le_of_ble_eq_true rfl) (fun _ => rfl) fun rows_56 _ => ?_
    exact s_end ⟨some (eI x34), _, c55, rfl⟩
  intro s58 _ _ h; obtain ⟨c59, c60, c61, rfl⟩ := h
  refine s_of ?_
  exact s_retV (er := (eL (eL eI))) (by rfl)
@[irreducible] def t_worth_at (row' : (List Int)) (q' : Int) : E Int := fnT (F := E) (σ := Unit) (κ := Unit) (bindF (F := E) (forT (F := E) (fun (s6 : Int) (x8 : Int) => E.bind (E.bind (mulT s6 (q')) fun a9 => E.ok (a9 + x8)) fun out_10 => E.ok (.nx out_10)) ((row').reverse) (0 : Int)) (fun (s11 : Int) => E.ok (.ret s11)))
theorem x_worth_at (row' : (List Int)) (q' : Int) (p : Option Pen) : FR (t_worth_at row' q') eI 0 (fm_worth_at [(eL eI) row', eI q'] p) p := by
  delta t_worth_at
  refine f_fn (I := fun _ _ => True) (K := fun _ _ => True) rfl ?_
  delta m_worth_at
  refine s_at (ρ := [some ⟨(eL eI) (row'), 0⟩, some ⟨eI (q'), 0⟩, none, none]) (by rfl) ?_
  refine s_asgP (enc := eI) (ρ' := [some ⟨(eL eI) (row'), 0⟩, some ⟨eI (q'), 0⟩, some ⟨eI (0 : Int), 0⟩, none]) p_num (Nat.le_of_ble_eq_true rfl) rfl ?_
  refine s_forP (J := (fun (s : Int) ρ => ∃ (c3 : Option D), ρ = [some ⟨(eL eI) (row'), 0⟩, some ⟨eI (q'), 0⟩, some ⟨eI s, 0⟩, Option.map flatC c3])) (enc := eI) (iv_L (enc := eI) (ev_un (v_0 (i := 0) (d := (eL eI) (row')) (by rfl)) (o_revL (e := eI)))) ⟨none, rfl⟩ ?_ ?_
  · intro s6 x8 _ _ h; obtain ⟨c7, rfl⟩ := h
    refine ⟨_, rfl, ?_⟩
    refine s_at (ρ := [some ⟨(eL eI) (row'), 0⟩, some ⟨eI (q'), 0⟩, some ⟨eI s6, 0⟩, some ⟨eI x8, 0⟩]) (by rfl) ?_
    refine s_of ?_
    refine s_asg (enc := eI) (ρ' := fun out_10 => [some ⟨(eL eI) (row'), 0⟩, some ⟨eI (q'), 0⟩, some ⟨eI out_10, 0⟩, some ⟨eI x8, 0⟩]) (op_xpT (w := fun a9 => (a9 + x8)) (e3 := eI) (e1 := eI) (op_ppE (w := mulT s6 (q')) (e3 := eI) (v_0 (i := 2) (d := eI s6) (by rfl)) (v_0 (i := 1) (d := eI (q')) (by rfl)) (fun  _ h => o_mul h) (fun  _ _ => mulT_nx)) (fun _ => (v_0 (i := 3) (d := eI x8) (by rfl))) (fun _ => o_add)) (Nat.le_of_ble_eq_true rfl) (fun _ => rfl) fun out_10 _ => ?_
    exact s_end ⟨some (eI x8), rfl⟩
  intro s11 _ _ h; obtain ⟨c12, rfl⟩ := h
  refine s_of ?_
  exact s_retV (er := eI) (by rfl)
@[irreducible] def t_table_by (n' : Int) (q' : Int) : E (List (List Int)) := fnT (F := E) (σ := Unit) (κ := Unit) (E.bind (E.ok ([] : (List (List Int)))) fun out_1 => E.bind (rng2T (0 : Int) (n' + (1 : Int))) fun l31 => bindF (F := E) (forT (F := E) (fun (s15 : (List (List Int))) (x18 : Int) => E.bind (t_gauss_rows x18) fun rows_19 => E.bind (E.bind (E.bind (rng2T (0 : Int) (n' + (1 : Int))) fun l24 => E.bindB (lcT (F := E) (fun x20 => E.ok true) (fun x20 => (bif (decide (x20 ≤ x18)) then E.bind (idxT rows_19 x20) fun a21 => t_worth_at a21 (q') else E.ok (0 : Int))) l24) fun l23 => limT l23) fun a25 => E.ok a25) fun a27 => E.bind (putT s15 a27) fun out_26 => E.ok (.nx out_26)) l31 out_1) (fun (s28 : (List (List Int))) => E.ok (.ret s28)))
theorem x_table_by (n' : Int) (q' : Int) (p : Option Pen) : FR (t_table_by n' q') (eT (eT eI)) 0 (fm_table_by [eI n', eI q'] p) p := by
  delta t_table_by
  refine f_fn (I := fun _ _ => True) (K := fun _ _ => True) rfl ?_
  delta m_table_by
  refine s_at (ρ := [some ⟨eI (n'), 0⟩, some ⟨eI (q'), 0⟩, none, none, none, none]) (by rfl) ?_
  refine s_asg (enc := (eL (eT eI))) (ρ' := fun out_1 => [some ⟨eI (n'), 0⟩, some ⟨eI (q'), 0⟩, some ⟨(eL (eT eI)) out_1, 1⟩, none, none, none]) (x_pure (enc := (eL (eT eI))) (ev_lst ev_nil (Nat.le_of_ble_eq_true rfl))) (Nat.le_of_ble_eq_true rfl) (fun _ => rfl) fun out_1 _ => ?_
  refine s_for (J := (fun (s : (List (List Int))) ρ => ∃ (c3 : Option D), ∃ (c4 : Option Cell), ρ = [some ⟨eI (n'), 0⟩, some ⟨eI (q'), 0⟩, some ⟨(eL (eT eI)) s, 1⟩, Option.map flatC c3, c4, none])) (e := eI) (ir_E (w := rng2T (0 : Int) (n' + (1 : Int))) (ev_cons (ev_op (v_0 (i := 0) (d := eI (n')) (by rfl)) p_num o_add) (ev_nil)) (fun _ h => rg_1 h) fun _ _ => rng2T_nx) ⟨none, _, rfl⟩ ?_ ?_
  · intro s15 x18 _ _ h; obtain ⟨c16, c17, rfl⟩ := h
    refine ⟨_, rfl, ?_⟩
    refine s_at (ρ := [some ⟨eI (n'), 0⟩, some ⟨eI (q'), 0⟩, some ⟨(eL (eT eI)) s15, 1⟩, some ⟨eI x18, 0⟩, c17, none]) (by rfl) ?_
    refine s_asg (enc := (eL (eL eI))) (ρ' := fun rows_19 => [some ⟨eI (n'), 0⟩, some ⟨eI (q'), 0⟩, some ⟨(eL (eT eI)) s15, 1⟩, some ⟨eI x18, 0⟩, some ⟨(eL (eL eI)) rows_19, 1⟩, none]) (l_p (v_0 (i := 3) (d := eI x18) (by rfl)) (l_nil (n_call (lo := []) (x_gauss_rows x18 _)))) (Nat.le_of_ble_eq_true rfl) (fun _ => rfl) fun rows_19 _ => ?_
    refine s_of ?_
    refine s_app (enc := (eT eI)) (xs := s15) (js := []) (ρ' := fun out_26 => [some ⟨eI (n'), 0⟩, some ⟨eI (q'), 0⟩, some ⟨(eL (eT eI)) out_26, 1⟩, some ⟨eI x18, 0⟩, some ⟨(eL (eL eI)) rows_19, 1⟩, none]) (cb_xT (w := fun a25 => a25) (e3 := (eT eI)) (e1 := (eL eI)) (x_lc (ρ1 := fun x20 => [some ⟨eI (n'), 0⟩, some ⟨eI (q'), 0⟩, some ⟨(eL (eT eI)) s15, 1⟩, some ⟨eI x18, 0⟩, some ⟨(eL (eL eI)) rows_19, 1⟩, some ⟨eI x20, 0⟩]) (e := eI) (e' := eI) (ir_E (w := rng2T (0 : Int) (n' + (1 : Int))) (ev_cons (ev_op (v_0 (i := 0) (d := eI (n')) (by rfl)) p_num o_add) (ev_nil)) (fun _ h => rg_1 h) fun _ _ => rng2T_nx) (by rfl) (fun _ => rfl) (fun x20 _ => (c_pure p_bl rfl)) (fun x20 _ => (x_ifP (ev_op (v_0 (i := 5) (d := eI x20) (by rfl)) (v_0 (i := 3) (d := eI x18) (by rfl)) o_le) rfl (l_x (op_ppE (w := idxT rows_19 x20) (e3 := (eL eI)) (v_1 (i := 4) (d := (eL (eL eI)) rows_19) (by rfl)) (v_0 (i := 5) (d := eI x20) (by rfl)) (fun  _ h => o_idxL h) (fun  _ _ => idxT_nx)) fun a21 q22 => l_p (v_0 (i := 1) (d := eI (q')) (by rfl)) (l_nil (n_call (lo := []) (x_worth_at a21 (q') _)))) (x_pure (enc := eI) p_num))) (by decide)) (fun _ => o_tupL)) rfl (fun _ => frL_lf ((LF.t (inferInstance : LF eI)).lf _)) rfl (fun _ => rfl) fun out_26 _ => ?_
    exact s_end ⟨some (eI x18), _, rfl⟩
  intro s28 _ _ h; obtain ⟨c29, c30, rfl⟩ := h
  refine s_of ?_
  exact s_retP (er := (eT (eT eI))) (ev_cb (ev_cons (v_1 (i := 2) (d := (eL (eT eI)) s28) (by rfl)) ev_nil) o_tupL)
@[irreducible] def t_gauss_table (n' : Int) (q' : Int) : E (List (List Int)) := fnT (F := E) (σ := Unit) (κ := Unit) (E.bind (t_need_table (n') (q')) fun _ => E.bind (t_table_by (n') (q')) fun a1 => E.ok (.ret a1))
theorem x_gauss_table (n' : Int) (q' : Int) (p : Option Pen) : FR (t_gauss_table n' q') (eT (eT eI)) 0 (fm_gauss_table [eI n', eI q'] p) p := by
  delta t_gauss_table
  refine f_fn (I := fun _ _ => True) (K := fun _ _ => True) rfl ?_
  delta m_gauss_table
  refine s_at (ρ := [some ⟨eI (n'), 0⟩, some ⟨eI (q'), 0⟩]) (by rfl) ?_
  refine s_drop (l_p (v_0 (i := 0) (d := eI (n')) (by rfl)) (l_p (v_0 (i := 1) (d := eI (q')) (by rfl)) (l_nil (n_call (lo := []) (x_need_table (n') (q') _))))) fun _ _ => ?_
  refine s_of ?_
  exact s_retX (l_p (v_0 (i := 0) (d := eI (n')) (by rfl)) (l_p (v_0 (i := 1) (d := eI (q')) (by rfl)) (l_nil (n_call (lo := []) (x_table_by (n') (q') _)))))
@[irreducible] def t_power (q' : Int) (many' : Int) : E Int := fnT (F := E) (σ := Unit) (κ := Unit) (E.bind (rng2T (0 : Int) (many')) fun l11 => bindF (F := E) (forT (F := E) (fun (s5 : Int) (x7 : Int) => E.bind (mulT s5 (q')) fun out_8 => E.ok (.nx out_8)) l11 (1 : Int)) (fun (s9 : Int) => E.ok (.ret s9)))
theorem x_power (q' : Int) (many' : Int) (p : Option Pen) : FR (t_power q' many') eI 0 (fm_power [eI q', eI many'] p) p := by
  delta t_power
  refine f_fn (I := fun _ _ => True) (K := fun _ _ => True) rfl ?_
  delta m_power
  refine s_at (ρ := [some ⟨eI (q'), 0⟩, some ⟨eI (many'), 0⟩, none, none]) (by rfl) ?_
  refine s_asgP (enc := eI) (ρ' := [some ⟨eI (q'), 0⟩, some ⟨eI (many'), 0⟩, some ⟨eI (1 : Int), 0⟩, none]) p_num (Nat.le_of_ble_eq_true rfl) rfl ?_
  refine s_for (J := (fun (s : Int) ρ => ∃ (c3 : Option D), ρ = [some ⟨eI (q'), 0⟩, some ⟨eI (many'), 0⟩, some ⟨eI s, 0⟩, Option.map flatC c3])) (e := eI) (ir_E (w := rng2T (0 : Int) (many')) (ev_cons (v_0 (i := 1) (d := eI (many')) (by rfl)) (ev_nil)) (fun _ h => rg_1 h) fun _ _ => rng2T_nx) ⟨none, rfl⟩ ?_ ?_
  · intro s5 x7 _ _ h; obtain ⟨c6, rfl⟩ := h
    refine ⟨_, rfl, ?_⟩
    refine s_at (ρ := [some ⟨eI (q'), 0⟩, some ⟨eI (many'), 0⟩, some ⟨eI s5, 0⟩, some ⟨eI x7, 0⟩]) (by rfl) ?_
    refine s_of ?_
    refine s_asg (enc := eI) (ρ' := fun out_8 => [some ⟨eI (q'), 0⟩, some ⟨eI (many'), 0⟩, some ⟨eI out_8, 0⟩, some ⟨eI x7, 0⟩]) (op_ppE (w := mulT s5 (q')) (e3 := eI) (v_0 (i := 2) (d := eI s5) (by rfl)) (v_0 (i := 0) (d := eI (q')) (by rfl)) (fun  _ h => o_mul h) (fun  _ _ => mulT_nx)) (Nat.le_of_ble_eq_true rfl) (fun _ => rfl) fun out_8 _ => ?_
    exact s_end ⟨some (eI x7), rfl⟩
  intro s9 _ _ h; obtain ⟨c10, rfl⟩ := h
  refine s_of ?_
  exact s_retV (er := eI) (by rfl)
@[irreducible] def t_back_item (i' : Int) (j' : Int) (q' : Int) (item' : Int) : E Int := fnT (F := E) (σ := Unit) (κ := Unit) (bif (decide ((i' - j') < (0 : Int))) then E.ok (.ret (0 : Int)) else E.bind (E.ok (bif (decide ((Int.fmod (i' - j') (2 : Int)) = (0 : Int))) then (1 : Int) else (-(1 : Int)))) fun sign_1 => E.bind (E.bind (E.bind (E.bind (E.bind (mulT (i' - j') ((i' - j') - (1 : Int))) fun a2 => E.ok (Int.fdiv a2 (2 : Int))) fun a3 => t_power (q') a3) fun a5 => mulT sign_1 a5) fun a6 => mulT a6 (item')) fun a7 => E.ok (.ret a7))
theorem x_back_item (i' : Int) (j' : Int) (q' : Int) (item' : Int) (p : Option Pen) : FR (t_back_item i' j' q' item') eI 0 (fm_back_item [eI i', eI j', eI q', eI item'] p) p := by
  delta t_back_item
  refine f_fn (I := fun _ _ => True) (K := fun _ _ => True) rfl ?_
  delta m_back_item
  refine s_at (ρ := [some ⟨eI (i'), 0⟩, some ⟨eI (j'), 0⟩, some ⟨eI (q'), 0⟩, some ⟨eI (item'), 0⟩, none, none]) (by rfl) ?_
  refine s_asgP (enc := eI) (ρ' := [some ⟨eI (i'), 0⟩, some ⟨eI (j'), 0⟩, some ⟨eI (q'), 0⟩, some ⟨eI (item'), 0⟩, some ⟨eI (i' - j'), 0⟩, none]) (ev_op (v_0 (i := 0) (d := eI (i')) (by rfl)) (v_0 (i := 1) (d := eI (j')) (by rfl)) o_sub) (Nat.le_of_ble_eq_true rfl) rfl ?_
  refine s_ifSO (ev_op (v_0 (i := 4) (d := eI (i' - j')) (by rfl)) p_num o_lt) rfl ?_ ?_
  · refine s_of ?_
    exact s_retP (er := eI) p_num
  refine s_pass ?_
  refine s_asg (enc := eI) (ρ' := fun sign_1 => [some ⟨eI (i'), 0⟩, some ⟨eI (j'), 0⟩, some ⟨eI (q'), 0⟩, some ⟨eI (item'), 0⟩, some ⟨eI (i' - j'), 0⟩, some ⟨eI sign_1, 0⟩]) (x_pure (enc := eI) (ev_if (enc := eI) (ev_op (ev_op (v_0 (i := 4) (d := eI (i' - j')) (by rfl)) p_num (o_modC (by decide))) p_num (EqE.op (a := (Int.fmod (i' - j') (2 : Int))) (b := (0 : Int)) qI (by decide))) rfl p_num (ev_un p_num o_neg))) (Nat.le_of_ble_eq_true rfl) (fun _ => rfl) fun sign_1 _ => ?_
  refine s_of ?_
  exact s_retX (op_xpE (w := fun a6 => mulT a6 (item')) (e3 := eI) (e1 := eI) (op_pxE (w := fun a5 => mulT sign_1 a5) (e3 := eI) (e2 := eI) (v_0 (i := 5) (d := eI sign_1) (by rfl)) (l_p (v_0 (i := 2) (d := eI (q')) (by rfl)) (l_x (op_xpT (w := fun a2 => (Int.fdiv a2 (2 : Int))) (e3 := eI) (e1 := eI) (op_ppE (w := mulT (i' - j') ((i' - j') - (1 : Int))) (e3 := eI) (v_0 (i := 4) (d := eI (i' - j')) (by rfl)) (ev_op (v_0 (i := 4) (d := eI (i' - j')) (by rfl)) p_num o_sub) (fun  _ h => o_mul h) (fun  _ _ => mulT_nx)) (fun _ => p_num) (fun _ => (o_fdivC (by decide)))) fun a3 q4 => l_nil (n_call (lo := []) (x_power (q') a3 _)))) (fun _ _ h => o_mul h) (fun _ _ _ => mulT_nx)) (fun _ => (v_0 (i := 3) (d := eI (item')) (by rfl))) (fun _ _ h => o_mul h) (fun _ _ _ => mulT_nx))
@[irreducible] def t_back_table (n' : Int) (q' : Int) : E (List (List Int)) := fnT (F := E) (σ := Unit) (κ := Unit) (E.bind (t_need_table (n') (q')) fun _ => E.bind (t_table_by (n') (q')) fun table_1 => E.bind (E.bind (E.bind (rng2T (0 : Int) (n' + (1 : Int))) fun l11 => E.bindB (lcT (F := E) (fun x2 => E.ok true) (fun x2 => E.bind (E.bind (rng2T (0 : Int) (n' + (1 : Int))) fun l8 => E.bindB (lcT (F := E) (fun x3 => E.ok true) (fun x3 => E.bind (E.bind (idxT table_1 x2) fun a4 => idxT a4 x3) fun a5 => t_back_item x2 x3 (q') a5) l8) fun l7 => limT l7) fun a9 => E.ok a9) l11) fun l10 => limT l10) fun a12 => E.ok a12) fun a13 => E.ok (.ret a13))
theorem x_back_table (n' : Int) (q' : Int) (p : Option Pen) : FR (t_back_table n' q') (eT (eT eI)) 0 (fm_back_table [eI n', eI q'] p) p := by
  delta t_back_table
  refine f_fn (I := fun _ _ => True) (K := fun _ _ => True) rfl ?_
  delta m_back_table
  refine s_at (ρ := [some ⟨eI (n'), 0⟩, some ⟨eI (q'), 0⟩, none, none, none]) (by rfl) ?_
  refine s_drop (l_p (v_0 (i := 0) (d := eI (n')) (by rfl)) (l_p (v_0 (i := 1) (d := eI (q')) (by rfl)) (l_nil (n_call (lo := []) (x_need_table (n') (q') _))))) fun _ _ => ?_
  refine s_asg (enc := (eT (eT eI))) (ρ' := fun table_1 => [some ⟨eI (n'), 0⟩, some ⟨eI (q'), 0⟩, some ⟨(eT (eT eI)) table_1, 0⟩, none, none]) (l_p (v_0 (i := 0) (d := eI (n')) (by rfl)) (l_p (v_0 (i := 1) (d := eI (q')) (by rfl)) (l_nil (n_call (lo := []) (x_table_by (n') (q') _))))) (Nat.le_of_ble_eq_true rfl) (fun _ => rfl) fun table_1 _ => ?_
  refine s_of ?_
  exact s_retX (cb_xT (w := fun a12 => a12) (e3 := (eT (eT eI))) (e1 := (eL (eT eI))) (x_lc (ρ1 := fun x2 => [some ⟨eI (n'), 0⟩, some ⟨eI (q'), 0⟩, some ⟨(eT (eT eI)) table_1, 0⟩, none, some ⟨eI x2, 0⟩]) (e := eI) (e' := (eT eI)) (ir_E (w := rng2T (0 : Int) (n' + (1 : Int))) (ev_cons (ev_op (v_0 (i := 0) (d := eI (n')) (by rfl)) p_num o_add) (ev_nil)) (fun _ h => rg_1 h) fun _ _ => rng2T_nx) (by rfl) (fun _ => rfl) (fun x2 _ => (c_pure p_bl rfl)) (fun x2 _ => (cb_xT (w := fun a9 => a9) (e3 := (eT eI)) (e1 := (eL eI)) (x_lc (ρ1 := fun x3 => [some ⟨eI (n'), 0⟩, some ⟨eI (q'), 0⟩, some ⟨(eT (eT eI)) table_1, 0⟩, some ⟨eI x3, 0⟩, some ⟨eI x2, 0⟩]) (e := eI) (e' := eI) (ir_E (w := rng2T (0 : Int) (n' + (1 : Int))) (ev_cons (ev_op (v_0 (i := 0) (d := eI (n')) (by rfl)) p_num o_add) (ev_nil)) (fun _ h => rg_1 h) fun _ _ => rng2T_nx) (by rfl) (fun _ => rfl) (fun x3 _ => (c_pure p_bl rfl)) (fun x3 _ => (l_p (v_0 (i := 4) (d := eI x2) (by rfl)) (l_p (v_0 (i := 3) (d := eI x3) (by rfl)) (l_p (v_0 (i := 1) (d := eI (q')) (by rfl)) (l_x (op_xpE (w := fun a4 => idxT a4 x3) (e3 := eI) (e1 := (eT eI)) (op_ppE (w := idxT table_1 x2) (e3 := (eT eI)) (v_0 (i := 2) (d := (eT (eT eI)) table_1) (by rfl)) (v_0 (i := 4) (d := eI x2) (by rfl)) (fun  _ h => o_idxT h) (fun  _ _ => idxT_nx)) (fun _ => (v_0 (i := 3) (d := eI x3) (by rfl))) (fun _ _ h => o_idxT h) (fun _ _ _ => idxT_nx)) fun a5 q6 => l_nil (n_call (lo := []) (x_back_item x2 x3 (q') a5 _))))))) (by decide)) (fun _ => o_tupL))) (by decide)) (fun _ => o_tupL))
@[irreducible] def t__law_product_of (one' : (List (List Int))) (two' : (List (List Int))) : E (List (List Int)) := fnT (F := E) (σ := Unit) (κ := Unit) (E.bind (E.ok ((one').length : Int)) fun size_1 => E.bind (E.bind (rng2T (0 : Int) size_1) fun l15 => E.bindB (lcT (F := E) (fun x2 => E.ok true) (fun x2 => E.bind (rng2T (0 : Int) size_1) fun l13 => E.bindB (lcT (F := E) (fun x3 => E.ok true) (fun x3 => E.bind (E.bind (rng2T (0 : Int) size_1) fun l10 => E.bindB (lcT (F := E) (fun x4 => E.ok true) (fun x4 => E.bind (E.bind (idxT (one') x2) fun a5 => idxT a5 x4) fun a7 => E.bind (E.bind (idxT (two') x4) fun a6 => idxT a6 x3) fun a8 => mulT a7 a8) l10) fun l9 => limT l9) fun a11 => E.ok ((a11).sum)) l13) fun l12 => limT l12) l15) fun l14 => limT l14) fun a16 => E.ok (.ret a16))
theorem x__law_product_of (one' : (List (List Int))) (two' : (List (List Int))) (p : Option Pen) : FR (t__law_product_of one' two') (eL (eL eI)) 2 (fm__law_product_of [(eT (eT eI)) one', (eT (eT eI)) two'] p) p := by
  delta t__law_product_of
  refine f_fn (I := fun _ _ => True) (K := fun _ _ => True) rfl ?_
  delta m__law_product_of
  refine s_at (ρ := [some ⟨(eT (eT eI)) (one'), 0⟩, some ⟨(eT (eT eI)) (two'), 0⟩, none, none, none, none]) (by rfl) ?_
  refine s_asg (enc := eI) (ρ' := fun size_1 => [some ⟨(eT (eT eI)) (one'), 0⟩, some ⟨(eT (eT eI)) (two'), 0⟩, some ⟨eI size_1, 0⟩, none, none, none]) (x_pure (enc := eI) (ev_cb (ev_cons (v_0 (i := 0) (d := (eT (eT eI)) (one')) (by rfl)) ev_nil) o_lenT)) (Nat.le_of_ble_eq_true rfl) (fun _ => rfl) fun size_1 _ => ?_
  refine s_of ?_
  exact s_retX (x_lc (ρ1 := fun x2 => [some ⟨(eT (eT eI)) (one'), 0⟩, some ⟨(eT (eT eI)) (two'), 0⟩, some ⟨eI size_1, 0⟩, none, none, some ⟨eI x2, 0⟩]) (e := eI) (e' := (eL eI)) (ir_E (w := rng2T (0 : Int) size_1) (ev_cons (v_0 (i := 2) (d := eI size_1) (by rfl)) (ev_nil)) (fun _ h => rg_1 h) fun _ _ => rng2T_nx) (by rfl) (fun _ => rfl) (fun x2 _ => (c_pure p_bl rfl)) (fun x2 _ => (x_lc (ρ1 := fun x3 => [some ⟨(eT (eT eI)) (one'), 0⟩, some ⟨(eT (eT eI)) (two'), 0⟩, some ⟨eI size_1, 0⟩, none, some ⟨eI x3, 0⟩, some ⟨eI x2, 0⟩]) (e := eI) (e' := eI) (ir_E (w := rng2T (0 : Int) size_1) (ev_cons (v_0 (i := 2) (d := eI size_1) (by rfl)) (ev_nil)) (fun _ h => rg_1 h) fun _ _ => rng2T_nx) (by rfl) (fun _ => rfl) (fun x3 _ => (c_pure p_bl rfl)) (fun x3 _ => (cb_xT (w := fun a11 => (a11).sum) (e3 := eI) (e1 := (eL eI)) (x_lc (ρ1 := fun x4 => [some ⟨(eT (eT eI)) (one'), 0⟩, some ⟨(eT (eT eI)) (two'), 0⟩, some ⟨eI size_1, 0⟩, some ⟨eI x4, 0⟩, some ⟨eI x3, 0⟩, some ⟨eI x2, 0⟩]) (e := eI) (e' := eI) (ir_E (w := rng2T (0 : Int) size_1) (ev_cons (v_0 (i := 2) (d := eI size_1) (by rfl)) (ev_nil)) (fun _ h => rg_1 h) fun _ _ => rng2T_nx) (by rfl) (fun _ => rfl) (fun x4 _ => (c_pure p_bl rfl)) (fun x4 _ => (op_xxE (w := fun a7 a8 => mulT a7 a8) (e3 := eI) (e1 := eI) (e2 := eI) (op_xpE (w := fun a5 => idxT a5 x4) (e3 := eI) (e1 := (eT eI)) (op_ppE (w := idxT (one') x2) (e3 := (eT eI)) (v_0 (i := 0) (d := (eT (eT eI)) (one')) (by rfl)) (v_0 (i := 5) (d := eI x2) (by rfl)) (fun  _ h => o_idxT h) (fun  _ _ => idxT_nx)) (fun _ => (v_0 (i := 3) (d := eI x4) (by rfl))) (fun _ _ h => o_idxT h) (fun _ _ _ => idxT_nx)) (fun _ => (op_xpE (w := fun a6 => idxT a6 x3) (e3 := eI) (e1 := (eT eI)) (op_ppE (w := idxT (two') x4) (e3 := (eT eI)) (v_0 (i := 1) (d := (eT (eT eI)) (two')) (by rfl)) (v_0 (i := 3) (d := eI x4) (by rfl)) (fun  _ h => o_idxT h) (fun  _ _ => idxT_nx)) (fun _ => (v_0 (i := 4) (d := eI x3) (by rfl))) (fun _ _ h => o_idxT h) (fun _ _ _ => idxT_nx))) (fun _ _ _ h => o_mul h) (fun _ _ _ _ => mulT_nx))) (by decide)) (fun _ => o_sum))) (by decide))) (Or.inr rfl))
@[irreducible] def t__law_pick (some' : (List D)) : Dr D := fnT (F := Dr) (σ := Unit) (κ := Unit) (Dr.bind (Dr.bind (drawT ((some').length : Int)) fun a1 => Dr.ret (idxT (some') a1)) fun a2 => Dr.ret (.ok (.ret a2)))
theorem x__law_pick (some' : (List D)) (p : Option Pen) : FR (t__law_pick some') eD 0 (fm__law_pick [.pen, (eL eD) some'] p) p := by
  delta t__law_pick
  refine f_fn (I := fun _ _ => True) (K := fun _ _ => True) rfl ?_
  delta m__law_pick
  refine s_at (ρ := [some ⟨.pen, 0⟩, some ⟨(eL eD) (some'), 0⟩]) (by rfl) ?_
  refine s_of ?_
  exact s_retX (op_pxE (w := fun a1 => idxT (some') a1) (e3 := eD) (e2 := eI) (v_0 (i := 1) (d := (eL eD) (some')) (by rfl)) (l_p (v_0 (i := 0) (d := .pen) (by rfl)) (l_p (ev_cb (ev_cons (v_0 (i := 1) (d := (eL eD) (some')) (by rfl)) ev_nil) o_lenL) (l_nil (n_call (x__law_draw ((some').length : Int) _))))) (fun _ _ h => o_idxL h) (fun _ _ _ => idxT_nx))
def t_law : Dr (Fl Unit Unit Bool) := Dr.bind (Dr.ret (rng2T (0 : Int) (2 : Int))) fun l191 => bindF (F := Dr) (forT (F := Dr) (fun (s89 : Unit) (x101 : Int) => Dr.bind (drawT (9 : Int)) fun a102 => Dr.bind (drawT (10 : Int)) fun a103 => Dr.bind (Dr.ret (rng2T (0 : Int) (a102 + (1 : Int)))) fun l176 => bindF (F := Dr) (forT (F := Dr) (fun (s129 : (List (List Int)) × (List (List Int))) (x133 : Int) => Dr.bind (Dr.bind (Dr.ret (rng2T (0 : Int) (a102 + (1 : Int)))) fun l138 => Dr.bindB (lcT (F := Dr) (fun x134 => Dr.ret (.ok true)) (fun x134 => (bif (decide (x134 ≤ x133)) then Dr.bind (Dr.ret (t__law_gauss x133 x134)) fun a135 => Dr.ret (t__law_worth a135 a103) else Dr.ret (.ok (0 : Int)))) l138) fun l137 => Dr.ret (limT l137)) fun row_139 => Dr.bind (Dr.ret (.ok row_139)) fun a141 => Dr.bind (Dr.ret (putT s129.1 a141)) fun due_140 => Dr.bind (Dr.bind (Dr.ret (rng2T (0 : Int) (a102 + (1 : Int)))) fun l150 => Dr.bindB (lcT (F := Dr) (fun x142 => Dr.ret (.ok true)) (fun x142 => (bif (decide (x142 ≤ x133)) then Dr.bind (Dr.bind (Dr.bind (Dr.bind (Dr.ret (mulT (x133 - x142) ((x133 - x142) - (1 : Int)))) fun a143 => Dr.ret (.ok (Int.fdiv a143 (2 : Int)))) fun a144 => Dr.ret (t__law_power a103 a144)) fun a146 => Dr.ret (mulT (bif (decide ((Int.fmod (x133 - x142) (2 : Int)) = (0 : Int))) then (1 : Int) else (-(1 : Int))) a146)) fun a147 => Dr.bind (Dr.ret (idxT row_139 x142)) fun a148 => Dr.ret (mulT a147 a148) else Dr.ret (.ok (0 : Int)))) l150) fun l149 => Dr.ret (limT l149)) fun signed_151 => Dr.bind (Dr.ret (.ok signed_151)) fun a153 => Dr.bind (Dr.ret (putT s129.2 a153)) fun back_152 => Dr.ret (.ok (.nx (due_140, back_152)))) l176 (([] : (List (List Int))), ([] : (List (List Int))))) (fun (s154 : (List (List Int)) × (List (List Int))) => Dr.bind (Dr.ret (t_gauss_table a102 a103)) fun a158 => Dr.bind (Dr.ret (t_back_table a102 a103)) fun a159 => Dr.bind (Dr.bind (Dr.bind (Dr.ret (.ok a158)) fun a160 => Dr.bind (Dr.ret (rprT ((eT (eT eI)) a160))) fun _ => Dr.bind (Dr.ret (.ok s154.1)) fun a161 => Dr.ret (sameT a160 a161 false)) fun a164 => bif a164 then Dr.ret (.ok true) else Dr.bind (Dr.ret (.ok a159)) fun a162 => Dr.bind (Dr.ret (rprT ((eT (eT eI)) a162))) fun _ => Dr.bind (Dr.ret (.ok s154.2)) fun a163 => Dr.ret (sameT a162 a163 false)) fun a175 => bif a175 then Dr.ret (.ok (.ret false)) else Dr.bind (Dr.bind (Dr.ret (rng2T (0 : Int) (a102 + (1 : Int)))) fun l169 => Dr.bindB (lcT (F := Dr) (fun x165 => Dr.ret (.ok true)) (fun x165 => Dr.bind (Dr.ret (rng2T (0 : Int) (a102 + (1 : Int)))) fun l167 => Dr.ret (limT (List.map (fun x166 => (if (decide (x165 = x166)) then 1 else 0 : Int)) l167))) l169) fun l168 => Dr.ret (limT l168)) fun units_170 => Dr.bind (Dr.bind (Dr.bind (Dr.ret (t__law_product_of a158 a159)) fun a171 => Dr.ret (.ok (!decide (a171 = units_170)))) fun a173 => bif a173 then Dr.ret (.ok true) else Dr.bind (Dr.ret (t__law_product_of a159 a158)) fun a172 => Dr.ret (.ok (!decide (a172 = units_170)))) fun a174 => bif a174 then Dr.ret (.ok (.ret false)) else Dr.ret (.ok (.nx ())))) l191 ()) (fun (s177 : Unit) => Dr.bind (t__law_pick ([(eI (-(1 : Int))), (eI (9 : Int)), (eN ()), (eB true), (eS ("1" : Str))] : (List D))) fun a189 => Dr.bind (t__law_pick ([(eI (-(1 : Int))), (eI (10 : Int)), (eN ()), (eB true), (eS ("1" : Str))] : (List D))) fun a190 => bif memD a189 [(.int (-1)), (.int 9), .non, (.bl true), (.str "1")] && memD a190 [(.int (-1)), (.int 10), .non, (.bl true), (.str "1")] then Dr.ret (.ok (.ret true)) else Dr.ret .bad)
theorem x_law (p : Option Pen) : SR t_law (fun _ _ => True) (fun _ _ => True) eB 0 (m_law (startL 16) p) p := by
  delta t_law m_law
  refine s_at (ρ := [none, some ⟨.pen, 0⟩, none, none, none, none, none, none, none, none, none, none, none, none, none, none, none, none]) (by rfl) ?_
  refine s_for (J := (fun (s : Unit) ρ => ∃ (c2 : Option D), ∃ (c3 : Option D), ∃ (c4 : Option D), ∃ (c5 : Option Cell), ∃ (c6 : Option Cell), ∃ (c7 : Option D), ∃ (c8 : Option Cell), ∃ (c10 : Option Cell), ∃ (c11 : Option D), ∃ (c12 : Option D), ∃ (c13 : Option Cell), ρ = [none, some ⟨.pen, 0⟩, Option.map flatC c2, Option.map flatC c3, Option.map flatC c4, c5, c6, Option.map flatC c7, c8, none, c10, Option.map flatC c11, Option.map flatC c12, c13, none, none, none, none])) (e := eI) (ir_E (w := rng2T (0 : Int) (2 : Int)) (ev_cons p_num (ev_nil)) (fun _ h => rg_1 h) fun _ _ => rng2T_nx) ⟨none, none, none, _, _, none, _, _, none, none, _, rfl⟩ ?_ ?_
  · intro s89 x101 _ _ h; obtain ⟨c90, c91, c92, c93, c94, c95, c96, c97, c98, c99, c100, rfl⟩ := h
    refine ⟨_, rfl, ?_⟩
    refine s_at (ρ := [none, some ⟨.pen, 0⟩, some ⟨eI x101, 0⟩, Option.map flatC c91, Option.map flatC c92, c93, c94, Option.map flatC c95, c96, none, c97, Option.map flatC c98, Option.map flatC c99, c100, none, none, none, none]) (by rfl) ?_
    refine s_par2 (is := [3, 4]) (e1 := eI) (e2 := eI) (ρ' := fun a102 a103 => [none, some ⟨.pen, 0⟩, some ⟨eI x101, 0⟩, some ⟨eI a102, 0⟩, some ⟨eI a103, 0⟩, c93, c94, Option.map flatC c95, c96, none, c97, Option.map flatC c98, Option.map flatC c99, c100, none, none, none, none]) (l_p (v_0 (i := 1) (d := .pen) (by rfl)) (l_p p_num (l_nil (n_call (x__law_draw (9 : Int) _))))) (fun _ => (l_p (v_0 (i := 1) (d := .pen) (by rfl)) (l_p p_num (l_nil (n_call (x__law_draw (10 : Int) _)))))) rfl rfl (fun _ _ => rfl) fun a102 a103 _ => ?_
    refine s_parP (ρ' := [none, some ⟨.pen, 0⟩, some ⟨eI x101, 0⟩, some ⟨eI a102, 0⟩, some ⟨eI a103, 0⟩, some ⟨(eL (eT eI)) ([] : (List (List Int))), 1⟩, some ⟨(eL (eT eI)) ([] : (List (List Int))), 1⟩, Option.map flatC c95, c96, none, c97, Option.map flatC c98, Option.map flatC c99, c100, none, none, none, none]) (ev_cons (ev_lst ev_nil (Nat.le_of_ble_eq_true rfl)) (ev_cons (ev_lst ev_nil (Nat.le_of_ble_eq_true rfl)) (ev_nil))) ⟨rfl, rfl⟩ rfl ?_
    refine s_for (J := (fun (s : (List (List Int)) × (List (List Int))) ρ => ∃ (c7 : Option D), ∃ (c8 : Option Cell), ∃ (c10 : Option Cell), ρ = [none, some ⟨.pen, 0⟩, some ⟨eI x101, 0⟩, some ⟨eI a102, 0⟩, some ⟨eI a103, 0⟩, some ⟨(eL (eT eI)) s.1, 1⟩, some ⟨(eL (eT eI)) s.2, 1⟩, Option.map flatC c7, c8, none, c10, Option.map flatC c98, Option.map flatC c99, c100, none, none, none, none])) (e := eI) (ir_E (w := rng2T (0 : Int) (a102 + (1 : Int))) (ev_cons (ev_op (v_0 (i := 3) (d := eI a102) (by rfl)) p_num o_add) (ev_nil)) (fun _ h => rg_1 h) fun _ _ => rng2T_nx) ⟨c95, _, _, rfl⟩ ?_ ?_
    · intro s129 x133 _ _ h; obtain ⟨c130, c131, c132, rfl⟩ := h
      refine ⟨_, rfl, ?_⟩
      refine s_at (ρ := [none, some ⟨.pen, 0⟩, some ⟨eI x101, 0⟩, some ⟨eI a102, 0⟩, some ⟨eI a103, 0⟩, some ⟨(eL (eT eI)) s129.1, 1⟩, some ⟨(eL (eT eI)) s129.2, 1⟩, some ⟨eI x133, 0⟩, c131, none, c132, Option.map flatC c98, Option.map flatC c99, c100, none, none, none, none]) (by rfl) ?_
      refine s_asg (enc := (eL eI)) (ρ' := fun row_139 => [none, some ⟨.pen, 0⟩, some ⟨eI x101, 0⟩, some ⟨eI a102, 0⟩, some ⟨eI a103, 0⟩, some ⟨(eL (eT eI)) s129.1, 1⟩, some ⟨(eL (eT eI)) s129.2, 1⟩, some ⟨eI x133, 0⟩, some ⟨(eL eI) row_139, 1⟩, none, c132, Option.map flatC c98, Option.map flatC c99, c100, none, none, none, none]) (x_lc (ρ1 := fun x134 => [none, some ⟨.pen, 0⟩, some ⟨eI x101, 0⟩, some ⟨eI a102, 0⟩, some ⟨eI a103, 0⟩, some ⟨(eL (eT eI)) s129.1, 1⟩, some ⟨(eL (eT eI)) s129.2, 1⟩, some ⟨eI x133, 0⟩, c131, some ⟨eI x134, 0⟩, c132, Option.map flatC c98, Option.map flatC c99, c100, none, none, none, none]) (e := eI) (e' := eI) (ir_E (w := rng2T (0 : Int) (a102 + (1 : Int))) (ev_cons (ev_op (v_0 (i := 3) (d := eI a102) (by rfl)) p_num o_add) (ev_nil)) (fun _ h => rg_1 h) fun _ _ => rng2T_nx) (by rfl) (fun _ => rfl) (fun x134 _ => (c_pure p_bl rfl)) (fun x134 _ => (x_ifP (ev_op (v_0 (i := 9) (d := eI x134) (by rfl)) (v_0 (i := 7) (d := eI x133) (by rfl)) o_le) rfl (l_x (l_p (v_0 (i := 7) (d := eI x133) (by rfl)) (l_p (v_0 (i := 9) (d := eI x134) (by rfl)) (l_nil (n_call (lo := []) (FR.lift (x__law_gauss x133 x134 _)))))) fun a135 q136 => l_p (v_0 (i := 4) (d := eI a103) (by rfl)) (l_nil (n_call (lo := []) (FR.lift (x__law_worth a135 a103 _))))) (x_pure (enc := eI) p_num))) (by decide)) (Nat.le_of_ble_eq_true rfl) (fun _ => rfl) fun row_139 _ => ?_
      refine s_app (enc := (eT eI)) (xs := s129.1) (js := []) (ρ' := fun due_140 => [none, some ⟨.pen, 0⟩, some ⟨eI x101, 0⟩, some ⟨eI a102, 0⟩, some ⟨eI a103, 0⟩, some ⟨(eL (eT eI)) due_140, 1⟩, some ⟨(eL (eT eI)) s129.2, 1⟩, some ⟨eI x133, 0⟩, some ⟨(eL eI) row_139, 1⟩, none, c132, Option.map flatC c98, Option.map flatC c99, c100, none, none, none, none]) (x_pure (enc := (eT eI)) (ev_cb (ev_cons (v_1 (i := 8) (d := (eL eI) row_139) (by rfl)) ev_nil) o_tupL)) rfl (fun _ => frL_lf ((LF.t (inferInstance : LF eI)).lf _)) rfl (fun _ => rfl) fun due_140 _ => ?_
      refine s_asg (enc := (eL eI)) (ρ' := fun signed_151 => [none, some ⟨.pen, 0⟩, some ⟨eI x101, 0⟩, some ⟨eI a102, 0⟩, some ⟨eI a103, 0⟩, some ⟨(eL (eT eI)) due_140, 1⟩, some ⟨(eL (eT eI)) s129.2, 1⟩, some ⟨eI x133, 0⟩, some ⟨(eL eI) row_139, 1⟩, none, some ⟨(eL eI) signed_151, 1⟩, Option.map flatC c98, Option.map flatC c99, c100, none, none, none, none]) (x_lc (ρ1 := fun x142 => [none, some ⟨.pen, 0⟩, some ⟨eI x101, 0⟩, some ⟨eI a102, 0⟩, some ⟨eI a103, 0⟩, some ⟨(eL (eT eI)) due_140, 1⟩, some ⟨(eL (eT eI)) s129.2, 1⟩, some ⟨eI x133, 0⟩, some ⟨(eL eI) row_139, 1⟩, some ⟨eI x142, 0⟩, c132, Option.map flatC c98, Option.map flatC c99, c100, none, none, none, none]) (e := eI) (e' := eI) (ir_E (w := rng2T (0 : Int) (a102 + (1 : Int))) (ev_cons (ev_op (v_0 (i := 3) (d := eI a102) (by rfl)) p_num o_add) (ev_nil)) (fun _ h => rg_1 h) fun _ _ => rng2T_nx) (by rfl) (fun _ => rfl) (fun x142 _ => (c_pure p_bl rfl)) (fun x142 _ => (x_ifP (ev_op (v_0 (i := 9) (d := eI x142) (by rfl)) (v_0 (i := 7) (d := eI x133) (by rfl)) o_le) rfl (op_xxE (w := fun a147 a148 => mulT a147 a148) (e3 := eI) (e1 := eI) (e2 := eI) (op_pxE (w := fun a146 => mulT (bif (decide ((Int.fmod (x133 - x142) (2 : Int)) = (0 : Int))) then (1 : Int) else (-(1 : Int))) a146) (e3 := eI) (e2 := eI) (ev_if (enc := eI) (ev_op (ev_op (ev_cb (ev_cons (ev_op (v_0 (i := 7) (d := eI x133) (by rfl)) (v_0 (i := 9) (d := eI x142) (by rfl)) o_sub) ev_nil) o_int) p_num (o_modC (by decide))) p_num (EqE.op (a := (Int.fmod (x133 - x142) (2 : Int))) (b := (0 : Int)) qI (by decide))) rfl p_num (ev_un p_num o_neg)) (l_p (v_0 (i := 4) (d := eI a103) (by rfl)) (l_x (op_xpT (w := fun a143 => (Int.fdiv a143 (2 : Int))) (e3 := eI) (e1 := eI) (op_ppE (w := mulT (x133 - x142) ((x133 - x142) - (1 : Int))) (e3 := eI) (ev_op (v_0 (i := 7) (d := eI x133) (by rfl)) (v_0 (i := 9) (d := eI x142) (by rfl)) o_sub) (ev_op (ev_op (v_0 (i := 7) (d := eI x133) (by rfl)) (v_0 (i := 9) (d := eI x142) (by rfl)) o_sub) p_num o_sub) (fun  _ h => o_mul h) (fun  _ _ => mulT_nx)) (fun _ => p_num) (fun _ => (o_fdivC (by decide)))) fun a144 q145 => l_nil (n_call (lo := []) (FR.lift (x__law_power a103 a144 _))))) (fun _ _ h => o_mul h) (fun _ _ _ => mulT_nx)) (fun _ => (op_ppE (w := idxT row_139 x142) (e3 := eI) (v_1 (i := 8) (d := (eL eI) row_139) (by rfl)) (v_0 (i := 9) (d := eI x142) (by rfl)) (fun  _ h => o_idxL h) (fun  _ _ => idxT_nx))) (fun _ _ _ h => o_mul h) (fun _ _ _ _ => mulT_nx)) (x_pure (enc := eI) p_num))) (by decide)) (Nat.le_of_ble_eq_true rfl) (fun _ => rfl) fun signed_151 _ => ?_
      refine s_of ?_
      refine s_app (enc := (eT eI)) (xs := s129.2) (js := []) (ρ' := fun back_152 => [none, some ⟨.pen, 0⟩, some ⟨eI x101, 0⟩, some ⟨eI a102, 0⟩, some ⟨eI a103, 0⟩, some ⟨(eL (eT eI)) due_140, 1⟩, some ⟨(eL (eT eI)) back_152, 1⟩, some ⟨eI x133, 0⟩, some ⟨(eL eI) row_139, 1⟩, none, some ⟨(eL eI) signed_151, 1⟩, Option.map flatC c98, Option.map flatC c99, c100, none, none, none, none]) (x_pure (enc := (eT eI)) (ev_cb (ev_cons (v_1 (i := 10) (d := (eL eI) signed_151) (by rfl)) ev_nil) o_tupL)) rfl (fun _ => frL_lf ((LF.t (inferInstance : LF eI)).lf _)) rfl (fun _ => rfl) fun back_152 _ => ?_
      exact s_end ⟨some (eI x133), _, _, rfl⟩
    intro s154 _ _ h; obtain ⟨c155, c156, c157, rfl⟩ := h
    refine s_par2 (is := [11, 12]) (e1 := (eT (eT eI))) (e2 := (eT (eT eI))) (ρ' := fun a158 a159 => [none, some ⟨.pen, 0⟩, some ⟨eI x101, 0⟩, some ⟨eI a102, 0⟩, some ⟨eI a103, 0⟩, some ⟨(eL (eT eI)) s154.1, 1⟩, some ⟨(eL (eT eI)) s154.2, 1⟩, Option.map flatC c155, c156, none, c157, some ⟨(eT (eT eI)) a158, 0⟩, some ⟨(eT (eT eI)) a159, 0⟩, c100, none, none, none, none]) (l_p (v_0 (i := 3) (d := eI a102) (by rfl)) (l_p (v_0 (i := 4) (d := eI a103) (by rfl)) (l_nil (n_call (lo := []) (FR.lift (x_gauss_table a102 a103 _)))))) (fun _ => (l_p (v_0 (i := 3) (d := eI a102) (by rfl)) (l_p (v_0 (i := 4) (d := eI a103) (by rfl)) (l_nil (n_call (lo := []) (FR.lift (x_back_table a102 a103 _))))))) rfl rfl (fun _ _ => rfl) fun a158 a159 _ => ?_
    refine s_ifO (c_x (x_or (x_rpr2 (x_pure (enc := (eT (eT eI))) (v_0 (i := 11) (d := (eT (eT eI)) a158) (by rfl))) fun _ => (x_pure (enc := (eT (eT eI))) (ev_cb (ev_cons (v_1 (i := 5) (d := (eL (eT eI)) s154.1) (by rfl)) ev_nil) o_tupL))) fun _ => (x_rpr2 (x_pure (enc := (eT (eT eI))) (v_0 (i := 12) (d := (eT (eT eI)) a159) (by rfl))) fun _ => (x_pure (enc := (eT (eT eI))) (ev_cb (ev_cons (v_1 (i := 6) (d := (eL (eT eI)) s154.2) (by rfl)) ev_nil) o_tupL))))) (fun _ => ?_) (fun _ => ?_)
    · refine s_of ?_
      exact s_retP (er := eB) p_bl
    refine s_pass ?_
    refine s_asg (enc := (eL (eL eI))) (ρ' := fun units_170 => [none, some ⟨.pen, 0⟩, some ⟨eI x101, 0⟩, some ⟨eI a102, 0⟩, some ⟨eI a103, 0⟩, some ⟨(eL (eT eI)) s154.1, 1⟩, some ⟨(eL (eT eI)) s154.2, 1⟩, Option.map flatC c155, c156, none, c157, some ⟨(eT (eT eI)) a158, 0⟩, some ⟨(eT (eT eI)) a159, 0⟩, some ⟨(eL (eL eI)) units_170, 2⟩, none, none, none, none]) (x_lc (ρ1 := fun x165 => [none, some ⟨.pen, 0⟩, some ⟨eI x101, 0⟩, some ⟨eI a102, 0⟩, some ⟨eI a103, 0⟩, some ⟨(eL (eT eI)) s154.1, 1⟩, some ⟨(eL (eT eI)) s154.2, 1⟩, some ⟨eI x165, 0⟩, c156, none, c157, some ⟨(eT (eT eI)) a158, 0⟩, some ⟨(eT (eT eI)) a159, 0⟩, c100, none, none, none, none]) (e := eI) (e' := (eL eI)) (ir_E (w := rng2T (0 : Int) (a102 + (1 : Int))) (ev_cons (ev_op (v_0 (i := 3) (d := eI a102) (by rfl)) p_num o_add) (ev_nil)) (fun _ h => rg_1 h) fun _ _ => rng2T_nx) (by rcases c155 with _ | _ <;> rfl) (fun _ => rfl) (fun x165 _ => (c_pure p_bl rfl)) (fun x165 _ => (x_lcV0 (ρ1 := fun x166 => [none, some ⟨.pen, 0⟩, some ⟨eI x101, 0⟩, some ⟨eI a102, 0⟩, some ⟨eI a103, 0⟩, some ⟨(eL (eT eI)) s154.1, 1⟩, some ⟨(eL (eT eI)) s154.2, 1⟩, some ⟨eI x165, 0⟩, c156, some ⟨eI x166, 0⟩, c157, some ⟨(eT (eT eI)) a158, 0⟩, some ⟨(eT (eT eI)) a159, 0⟩, c100, none, none, none, none]) (e := eI) (e' := eI) (v := fun x166 => (if (decide (x165 = x166)) then 1 else 0 : Int))  (ir_E (w := rng2T (0 : Int) (a102 + (1 : Int))) (ev_cons (ev_op (v_0 (i := 3) (d := eI a102) (by rfl)) p_num o_add) (ev_nil)) (fun _ h => rg_1 h) fun _ _ => rng2T_nx) (by rfl) (fun _ => rfl)  (fun x166 _ => (ev_cb (ev_cons (ev_op (v_0 (i := 7) (d := eI x165) (by rfl)) (v_0 (i := 9) (d := eI x166) (by rfl)) (EqE.op (a := x165) (b := x166) qI (by decide))) ev_nil) o_intB)) (by decide))) (Or.inr rfl)) (Nat.le_of_ble_eq_true rfl) (fun _ => rfl) fun units_170 _ => ?_
    refine s_of ?_
    refine s_ifO (c_x (x_or (op_xpT (w := fun a171 => (!decide (a171 = units_170))) (e3 := eB) (e1 := (eL (eL eI))) (l_p (v_0 (i := 11) (d := (eT (eT eI)) a158) (by rfl)) (l_p (v_0 (i := 12) (d := (eT (eT eI)) a159) (by rfl)) (l_nil (n_call (lo := []) (FR.lift (x__law_product_of a158 a159 _)))))) (fun _ => (v_2 (i := 13) (o := 0) (d := (eL (eL eI)) units_170) (by rfl))) (fun _ => (EqE.opN (qL (qL qI)) (by decide)))) fun _ => (op_xpT (w := fun a172 => (!decide (a172 = units_170))) (e3 := eB) (e1 := (eL (eL eI))) (l_p (v_0 (i := 12) (d := (eT (eT eI)) a159) (by rfl)) (l_p (v_0 (i := 11) (d := (eT (eT eI)) a158) (by rfl)) (l_nil (n_call (lo := []) (FR.lift (x__law_product_of a159 a158 _)))))) (fun _ => (v_2 (i := 13) (o := 0) (d := (eL (eL eI)) units_170) (by rfl))) (fun _ => (EqE.opN (qL (qL qI)) (by decide)))))) (fun _ => ?_) (fun _ => ?_)
    · refine s_of ?_
      exact s_retP (er := eB) p_bl
    refine s_pass ?_
    exact s_end ⟨some (eI x101), some (eI a102), some (eI a103), _, _, c155, _, _, some ((eT (eT eI)) a158), some ((eT (eT eI)) a159), _, rfl⟩
  intro s177 _ _ h; obtain ⟨c178, c179, c180, c181, c182, c183, c184, c185, c186, c187, c188, rfl⟩ := h
  refine s_par2 (is := [14, 15]) (e1 := eD) (e2 := eD) (ρ' := fun a189 a190 => [none, some ⟨.pen, 0⟩, Option.map flatC c178, Option.map flatC c179, Option.map flatC c180, c181, c182, Option.map flatC c183, c184, none, c185, Option.map flatC c186, Option.map flatC c187, c188, some ⟨eD a189, 0⟩, some ⟨eD a190, 0⟩, none, none]) (l_p (v_0 (i := 1) (d := .pen) (by rfl)) (l_p (ev_lst (ev_cons (ev_un p_num o_neg) (ev_cons p_num (ev_cons p_non (ev_cons p_bl (ev_cons p_str (ev_nil)))))) (Nat.le_of_ble_eq_true rfl)) (l_nil (n_call (lo := []) (x__law_pick ([(eI (-(1 : Int))), (eI (9 : Int)), (eN ()), (eB true), (eS ("1" : Str))] : (List D)) _))))) (fun _ => (l_p (v_0 (i := 1) (d := .pen) (by rfl)) (l_p (ev_lst (ev_cons (ev_un p_num o_neg) (ev_cons p_num (ev_cons p_non (ev_cons p_bl (ev_cons p_str (ev_nil)))))) (Nat.le_of_ble_eq_true rfl)) (l_nil (n_call (lo := []) (x__law_pick ([(eI (-(1 : Int))), (eI (10 : Int)), (eN ()), (eB true), (eS ("1" : Str))] : (List D)) _)))))) rfl rfl (fun _ _ => rfl) fun a189 a190 _ => ?_
  refine s_tailB fun h p => ?_
  simp only [Bool.and_eq_true] at h
  obtain ⟨h0, h1⟩ := h
  rcases mem1 h0 with rfl | rfl | rfl | rfl | rfl
  all_goals rcases mem1 h1 with rfl | rfl | rfl | rfl | rfl
  all_goals (rcases c181 with _ | ⟨_, _ | _⟩ <;> kernel_rfl)
end

noncomputable section
theorem law_wp : (fnT t_law).wp (· = true) 6 := by
  refine wp_fn ?_
  unfold t_law
  rw [rng2_ok (by omega) (by omega) (by omega) (by omega), Dr.bind_ok]
  refine wp_bindF (n := (rgT 0 1 ((2 : Int) - 0).toNat).length * 2) (m := 2) (Dr.wp_imp ?_ (wp_for (I := fun _ => True) (n := 2) (fun s x hx _ => ?_) () trivial))
  · rintro _ ⟨s, rfl, _⟩
    refine ⟨s, rfl, ?_⟩
    have fin : ∀ t : Dr (Fl Unit Unit Bool), t.chk (fun o => match o with | .ret x => x | _ => false) 2 = true → t.wp (fun o => ∃ x, o = .ret x ∧ x = true) 2 := fun t h => Dr.wp_imp (fun o q => by
      cases o with
      | ret x => exact ⟨x, rfl, q⟩
      | nx s => cases q
      | brk s => cases q
      | cnt s => cases q) (Dr.chk_ok h)
    exact fin _ (by kernel_rfl)
  · refine Dr.wp_imp (Q := fun o => ∃ s, o = .nx s) (fun o h => Exists.imp (fun s e => ⟨e, trivial⟩) h) ?_
    refine wp_draw1 (n := 1) (by decide) (by decide) fun r h0 h1 => ?_
    have : r = 0 ∨ r = 1 ∨ r = 2 ∨ r = 3 ∨ r = 4 ∨ r = 5 ∨ r = 6 ∨ r = 7 ∨ r = 8 := by omega
    rcases this with rfl | rfl | rfl | rfl | rfl | rfl | rfl | rfl | rfl
    all_goals exact wp_nx (by kernel_rfl)
abbrev law_N : Nat := 6
end

theorem ok_law : ∀ ns : List Int, ns.length ≤ 63 → lawOk (m_law (startL 16) (some (penNew ns))) := fun ns _ => DL.law_ok (x_law) (N := law_N) (by decide) law_wp ns

def clsS (s : Stmt) (n : Nat) : Stmt := match s with | .ClassDef _ _ _ b _ _ _ _ _ _ _ => b.getD n (.Pass ⟨0, 0, 0, 0⟩) | _ => .Pass ⟨0, 0, 0, 0⟩
abbrev si_BadNumber : Stmt := clsS (top 2) 0
theorem sci_BadNumber : FnScope ["self", "what", "number"] ["self", "what", "number"] (defScope si_BadNumber) := ⟨rfl, rfl, rfl, by decide +kernel, rfl, by decide +kernel, by decide +kernel⟩
theorem er_BadNumber {P : Program} {w : World} {K : PySem.W.Frag} {mg : Str → Option Value} {base : Heap} {C fI B : Addr} {fd : FuncData} (F : Fun K "__init__" "BadNumber.__init__" si_BadNumber fI fd) (bd : Binds K fd ["self", "what", "number"] []) (eb : ErrB K mg "PartError" B) (g : mg "BadNumber" = some (.ref C)) (oex : OexC K C) (no : ∀ f ∈ (["what", "number"] : List Str), PySem.W.findIn K (.ref C) f = some none) (ini : PySem.W.findIn K (.ref C) "__init__" = some (some (.ref fI))) (ty : PySem.W.typeIn K (.ref fI) = some (.type "function")) : ErrOk P w K mg base C "BadNumber" ["what", "number"] := by
  have S := sci_BadNumber
  exact err_mk (txt := "A number that is not allowed here.") F S bd (by decide) (by decide) g oex no ini ty fun cdv A out s H E => pss_cons (ps_expr (pe_binit eb rfl (pa_cons (pe_var (i := 0) rfl (.inl rfl)) (pa_cons pe_str pa_nil)))) (pss_cons (ps_ost (pe_var (i := 0) rfl (.inl rfl)) (pe_var (i := 1) rfl (.inl rfl))) (pss_cons (ps_ost (pe_var (i := 0) rfl (.inl rfl)) (pe_var (i := 2) rfl (.inl rfl))) (pss_nil)))
abbrev si_BadSum : Stmt := clsS (top 3) 0
theorem sci_BadSum : FnScope ["self", "value"] ["self", "value"] (defScope si_BadSum) := ⟨rfl, rfl, rfl, by decide +kernel, rfl, by decide +kernel, by decide +kernel⟩
theorem er_BadSum {P : Program} {w : World} {K : PySem.W.Frag} {mg : Str → Option Value} {base : Heap} {C fI B : Addr} {fd : FuncData} (F : Fun K "__init__" "BadSum.__init__" si_BadSum fI fd) (bd : Binds K fd ["self", "value"] []) (eb : ErrB K mg "PartError" B) (g : mg "BadSum" = some (.ref C)) (oex : OexC K C) (no : ∀ f ∈ (["value"] : List Str), PySem.W.findIn K (.ref C) f = some none) (ini : PySem.W.findIn K (.ref C) "__init__" = some (some (.ref fI))) (ty : PySem.W.typeIn K (.ref fI) = some (.type "function")) : ErrOk P w K mg base C "BadSum" ["value"] := by
  have S := sci_BadSum
  exact err_mk (txt := "A value that is no sum.") F S bd (by decide) (by decide) g oex no ini ty fun cdv A out s H E => pss_cons (ps_expr (pe_binit eb rfl (pa_cons (pe_var (i := 0) rfl (.inl rfl)) (pa_cons pe_str pa_nil)))) (pss_cons (ps_ost (pe_var (i := 0) rfl (.inl rfl)) (pe_var (i := 1) rfl (.inl rfl))) (pss_nil))
abbrev si_BadRow : Stmt := clsS (top 4) 0
theorem sci_BadRow : FnScope ["self", "row"] ["self", "row"] (defScope si_BadRow) := ⟨rfl, rfl, rfl, by decide +kernel, rfl, by decide +kernel, by decide +kernel⟩
theorem er_BadRow {P : Program} {w : World} {K : PySem.W.Frag} {mg : Str → Option Value} {base : Heap} {C fI B : Addr} {fd : FuncData} (F : Fun K "__init__" "BadRow.__init__" si_BadRow fI fd) (bd : Binds K fd ["self", "row"] []) (eb : ErrB K mg "PartError" B) (g : mg "BadRow" = some (.ref C)) (oex : OexC K C) (no : ∀ f ∈ (["row"] : List Str), PySem.W.findIn K (.ref C) f = some none) (ini : PySem.W.findIn K (.ref C) "__init__" = some (some (.ref fI))) (ty : PySem.W.typeIn K (.ref fI) = some (.type "function")) : ErrOk P w K mg base C "BadRow" ["row"] := by
  have S := sci_BadRow
  exact err_mk (txt := "A value that is no such row.") F S bd (by decide) (by decide) g oex no ini ty fun cdv A out s H E => pss_cons (ps_expr (pe_binit eb rfl (pa_cons (pe_var (i := 0) rfl (.inl rfl)) (pa_cons pe_str pa_nil)))) (pss_cons (ps_ost (pe_var (i := 0) rfl (.inl rfl)) (pe_var (i := 1) rfl (.inl rfl))) (pss_nil))
abbrev si_BadTable : Stmt := clsS (top 5) 0
theorem sci_BadTable : FnScope ["self", "table"] ["self", "table"] (defScope si_BadTable) := ⟨rfl, rfl, rfl, by decide +kernel, rfl, by decide +kernel, by decide +kernel⟩
theorem er_BadTable {P : Program} {w : World} {K : PySem.W.Frag} {mg : Str → Option Value} {base : Heap} {C fI B : Addr} {fd : FuncData} (F : Fun K "__init__" "BadTable.__init__" si_BadTable fI fd) (bd : Binds K fd ["self", "table"] []) (eb : ErrB K mg "PartError" B) (g : mg "BadTable" = some (.ref C)) (oex : OexC K C) (no : ∀ f ∈ (["table"] : List Str), PySem.W.findIn K (.ref C) f = some none) (ini : PySem.W.findIn K (.ref C) "__init__" = some (some (.ref fI))) (ty : PySem.W.typeIn K (.ref fI) = some (.type "function")) : ErrOk P w K mg base C "BadTable" ["table"] := by
  have S := sci_BadTable
  exact err_mk (txt := "A value that is no such table.") F S bd (by decide) (by decide) g oex no ini ty fun cdv A out s H E => pss_cons (ps_expr (pe_binit eb rfl (pa_cons (pe_var (i := 0) rfl (.inl rfl)) (pa_cons pe_str pa_nil)))) (pss_cons (ps_ost (pe_var (i := 0) rfl (.inl rfl)) (pe_var (i := 1) rfl (.inl rfl))) (pss_nil))
abbrev si_BadRule : Stmt := clsS (top 6) 0
theorem sci_BadRule : FnScope ["self", "what", "value"] ["self", "what", "value"] (defScope si_BadRule) := ⟨rfl, rfl, rfl, by decide +kernel, rfl, by decide +kernel, by decide +kernel⟩
theorem er_BadRule {P : Program} {w : World} {K : PySem.W.Frag} {mg : Str → Option Value} {base : Heap} {C fI B : Addr} {fd : FuncData} (F : Fun K "__init__" "BadRule.__init__" si_BadRule fI fd) (bd : Binds K fd ["self", "what", "value"] []) (eb : ErrB K mg "PartError" B) (g : mg "BadRule" = some (.ref C)) (oex : OexC K C) (no : ∀ f ∈ (["what", "value"] : List Str), PySem.W.findIn K (.ref C) f = some none) (ini : PySem.W.findIn K (.ref C) "__init__" = some (some (.ref fI))) (ty : PySem.W.typeIn K (.ref fI) = some (.type "function")) : ErrOk P w K mg base C "BadRule" ["what", "value"] := by
  have S := sci_BadRule
  exact err_mk (txt := "A value of which no rule is made.") F S bd (by decide) (by decide) g oex no ini ty fun cdv A out s H E => pss_cons (ps_expr (pe_binit eb rfl (pa_cons (pe_var (i := 0) rfl (.inl rfl)) (pa_cons pe_str pa_nil)))) (pss_cons (ps_ost (pe_var (i := 0) rfl (.inl rfl)) (pe_var (i := 1) rfl (.inl rfl))) (pss_cons (ps_ost (pe_var (i := 0) rfl (.inl rfl)) (pe_var (i := 2) rfl (.inl rfl))) (pss_nil)))
abbrev si_Unlike : Stmt := clsS (top 7) 0
theorem sci_Unlike : FnScope ["self", "what"] ["self", "what"] (defScope si_Unlike) := ⟨rfl, rfl, rfl, by decide +kernel, rfl, by decide +kernel, by decide +kernel⟩
theorem er_Unlike {P : Program} {w : World} {K : PySem.W.Frag} {mg : Str → Option Value} {base : Heap} {C fI B : Addr} {fd : FuncData} (F : Fun K "__init__" "Unlike.__init__" si_Unlike fI fd) (bd : Binds K fd ["self", "what"] []) (eb : ErrB K mg "PartError" B) (g : mg "Unlike" = some (.ref C)) (oex : OexC K C) (no : ∀ f ∈ (["what"] : List Str), PySem.W.findIn K (.ref C) f = some none) (ini : PySem.W.findIn K (.ref C) "__init__" = some (some (.ref fI))) (ty : PySem.W.typeIn K (.ref fI) = some (.type "function")) : ErrOk P w K mg base C "Unlike" ["what"] := by
  have S := sci_Unlike
  exact err_mk (txt := "Things that do not fit together.") F S bd (by decide) (by decide) g oex no ini ty fun cdv A out s H E => pss_cons (ps_expr (pe_binit eb rfl (pa_cons (pe_var (i := 0) rfl (.inl rfl)) (pa_cons pe_str pa_nil)))) (pss_cons (ps_ost (pe_var (i := 0) rfl (.inl rfl)) (pe_var (i := 1) rfl (.inl rfl))) (pss_nil))
abbrev si_TooMany : Stmt := clsS (top 8) 0
theorem sci_TooMany : FnScope ["self", "what", "many", "limit"] ["self", "what", "many", "limit"] (defScope si_TooMany) := ⟨rfl, rfl, rfl, by decide +kernel, rfl, by decide +kernel, by decide +kernel⟩
theorem er_TooMany {P : Program} {w : World} {K : PySem.W.Frag} {mg : Str → Option Value} {base : Heap} {C fI B : Addr} {fd : FuncData} (F : Fun K "__init__" "TooMany.__init__" si_TooMany fI fd) (bd : Binds K fd ["self", "what", "many", "limit"] []) (eb : ErrB K mg "PartError" B) (g : mg "TooMany" = some (.ref C)) (oex : OexC K C) (no : ∀ f ∈ (["what", "many", "limit"] : List Str), PySem.W.findIn K (.ref C) f = some none) (ini : PySem.W.findIn K (.ref C) "__init__" = some (some (.ref fI))) (ty : PySem.W.typeIn K (.ref fI) = some (.type "function")) : ErrOk P w K mg base C "TooMany" ["what", "many", "limit"] := by
  have S := sci_TooMany
  exact err_mk (txt := "More than may be.") F S bd (by decide) (by decide) g oex no ini ty fun cdv A out s H E => pss_cons (ps_expr (pe_binit eb rfl (pa_cons (pe_var (i := 0) rfl (.inl rfl)) (pa_cons pe_str pa_nil)))) (pss_cons (ps_ost (pe_var (i := 0) rfl (.inl rfl)) (pe_var (i := 1) rfl (.inl rfl))) (pss_cons (ps_ost (pe_var (i := 0) rfl (.inl rfl)) (pe_var (i := 2) rfl (.inl rfl))) (pss_cons (ps_ost (pe_var (i := 0) rfl (.inl rfl)) (pe_var (i := 3) rfl (.inl rfl))) (pss_nil))))
def tx (K : PySem.W.Frag) (fl cl : List Addr) : Tx := { K := K, fa := fun n => fl.getD n 0, ca := fun n => cl.getD n 0, cf := fun n => ([(["what", "number"] : List Str).reverse, (["value"] : List Str).reverse, (["row"] : List Str).reverse, (["table"] : List Str).reverse, (["what", "value"] : List Str).reverse, (["what"] : List Str).reverse, (["what", "many", "limit"] : List Str).reverse] : List (List Str)).getD n [], cl := fun _ _ _ => .tbl #[], cq := fun _ => "", W := none, Wc := 0, tb := [], C := fun _ => none, Z := fun _ => none, kl := 7 }
theorem all_mk {P : Program} {w : World} {K : PySem.W.Frag} {h : Heap} {mg : Str → Option Value} {fa : Addr} {c t : Addr} (X : K.In h) (G : h.Ns mainGlobals mg) (hfa : mg "law" = some (.ref fa)) {f0 f1 f2 f3 f4 f5 f6 f7 f8 f9 f10 f11 f12 f13 f14 f15 f16 f17 f18 f19 f20 CBadNumber IBadNumber CBadSum IBadSum CBadRow IBadRow CBadTable IBadTable CBadRule IBadRule CUnlike IUnlike CTooMany ITooMany BPartError : Addr}
    {od0 an0 : Option Addr} {sl0 : Array (Option Value)} {oc0 kV0 dc0 pm0 ct0 cd0 : Value}
    (a0 : PySem.W.nsIn K mainGlobals "is_whole" = some (some (.ref f0)))
    (l0 : K.lookup f0 = some ⟨oc0, od0, .func (PySem.W.fnOf "is_whole" "is_whole" (defArgs s_is_whole) (defBody s_is_whole) (defScope s_is_whole) .none kV0 dc0 pm0 an0 cd0 ct0), sl0⟩)
    (c0 : PySem.W.codeIn K cd0 "is_whole" = true)
    (k0 : PySem.W.keepIn K (.ref f0) = true)
    {od1 an1 : Option Addr} {sl1 : Array (Option Value)} {oc1 kV1 dc1 pm1 ct1 cd1 : Value}
    (a1 : PySem.W.nsIn K mainGlobals "need_between" = some (some (.ref f1)))
    (l1 : K.lookup f1 = some ⟨oc1, od1, .func (PySem.W.fnOf "need_between" "need_between" (defArgs s_need_between) (defBody s_need_between) (defScope s_need_between) .none kV1 dc1 pm1 an1 cd1 ct1), sl1⟩)
    (c1 : PySem.W.codeIn K cd1 "need_between" = true)
    (k1 : PySem.W.keepIn K (.ref f1) = true)
    {od2 an2 : Option Addr} {sl2 : Array (Option Value)} {oc2 kV2 dc2 pm2 ct2 cd2 : Value}
    (a2 : PySem.W.nsIn K mainGlobals "put_later" = some (some (.ref f2)))
    (l2 : K.lookup f2 = some ⟨oc2, od2, .func (PySem.W.fnOf "put_later" "put_later" (defArgs s_put_later) (defBody s_put_later) (defScope s_put_later) .none kV2 dc2 pm2 an2 cd2 ct2), sl2⟩)
    (c2 : PySem.W.codeIn K cd2 "put_later" = true)
    (k2 : PySem.W.keepIn K (.ref f2) = true)
    {od3 an3 : Option Addr} {sl3 : Array (Option Value)} {oc3 kV3 dc3 pm3 ct3 cd3 : Value}
    (a3 : PySem.W.nsIn K mainGlobals "gauss_rows" = some (some (.ref f3)))
    (l3 : K.lookup f3 = some ⟨oc3, od3, .func (PySem.W.fnOf "gauss_rows" "gauss_rows" (defArgs s_gauss_rows) (defBody s_gauss_rows) (defScope s_gauss_rows) .none kV3 dc3 pm3 an3 cd3 ct3), sl3⟩)
    (c3 : PySem.W.codeIn K cd3 "gauss_rows" = true)
    (k3 : PySem.W.keepIn K (.ref f3) = true)
    {od4 an4 : Option Addr} {sl4 : Array (Option Value)} {oc4 kV4 dc4 pm4 ct4 cd4 : Value}
    (a4 : PySem.W.nsIn K mainGlobals "worth_at" = some (some (.ref f4)))
    (l4 : K.lookup f4 = some ⟨oc4, od4, .func (PySem.W.fnOf "worth_at" "worth_at" (defArgs s_worth_at) (defBody s_worth_at) (defScope s_worth_at) .none kV4 dc4 pm4 an4 cd4 ct4), sl4⟩)
    (c4 : PySem.W.codeIn K cd4 "worth_at" = true)
    (k4 : PySem.W.keepIn K (.ref f4) = true)
    {od5 an5 : Option Addr} {sl5 : Array (Option Value)} {oc5 kV5 dc5 pm5 ct5 cd5 : Value}
    (a5 : PySem.W.nsIn K mainGlobals "power" = some (some (.ref f5)))
    (l5 : K.lookup f5 = some ⟨oc5, od5, .func (PySem.W.fnOf "power" "power" (defArgs s_power) (defBody s_power) (defScope s_power) .none kV5 dc5 pm5 an5 cd5 ct5), sl5⟩)
    (c5 : PySem.W.codeIn K cd5 "power" = true)
    (k5 : PySem.W.keepIn K (.ref f5) = true)
    {od6 an6 : Option Addr} {sl6 : Array (Option Value)} {oc6 kV6 dc6 pm6 ct6 cd6 : Value}
    (a6 : PySem.W.nsIn K mainGlobals "table_by" = some (some (.ref f6)))
    (l6 : K.lookup f6 = some ⟨oc6, od6, .func (PySem.W.fnOf "table_by" "table_by" (defArgs s_table_by) (defBody s_table_by) (defScope s_table_by) .none kV6 dc6 pm6 an6 cd6 ct6), sl6⟩)
    (c6 : PySem.W.codeIn K cd6 "table_by" = true)
    (k6 : PySem.W.keepIn K (.ref f6) = true)
    {od7 an7 : Option Addr} {sl7 : Array (Option Value)} {oc7 kV7 dc7 pm7 ct7 cd7 : Value}
    (a7 : PySem.W.nsIn K mainGlobals "need_table" = some (some (.ref f7)))
    (l7 : K.lookup f7 = some ⟨oc7, od7, .func (PySem.W.fnOf "need_table" "need_table" (defArgs s_need_table) (defBody s_need_table) (defScope s_need_table) .none kV7 dc7 pm7 an7 cd7 ct7), sl7⟩)
    (c7 : PySem.W.codeIn K cd7 "need_table" = true)
    (k7 : PySem.W.keepIn K (.ref f7) = true)
    {od8 an8 : Option Addr} {sl8 : Array (Option Value)} {oc8 kV8 dc8 pm8 ct8 cd8 : Value}
    (a8 : PySem.W.nsIn K mainGlobals "gauss_table" = some (some (.ref f8)))
    (l8 : K.lookup f8 = some ⟨oc8, od8, .func (PySem.W.fnOf "gauss_table" "gauss_table" (defArgs s_gauss_table) (defBody s_gauss_table) (defScope s_gauss_table) .none kV8 dc8 pm8 an8 cd8 ct8), sl8⟩)
    (c8 : PySem.W.codeIn K cd8 "gauss_table" = true)
    (k8 : PySem.W.keepIn K (.ref f8) = true)
    {od9 an9 : Option Addr} {sl9 : Array (Option Value)} {oc9 kV9 dc9 pm9 ct9 cd9 : Value}
    (a9 : PySem.W.nsIn K mainGlobals "back_item" = some (some (.ref f9)))
    (l9 : K.lookup f9 = some ⟨oc9, od9, .func (PySem.W.fnOf "back_item" "back_item" (defArgs s_back_item) (defBody s_back_item) (defScope s_back_item) .none kV9 dc9 pm9 an9 cd9 ct9), sl9⟩)
    (c9 : PySem.W.codeIn K cd9 "back_item" = true)
    (k9 : PySem.W.keepIn K (.ref f9) = true)
    {od10 an10 : Option Addr} {sl10 : Array (Option Value)} {oc10 kV10 dc10 pm10 ct10 cd10 : Value}
    (a10 : PySem.W.nsIn K mainGlobals "back_table" = some (some (.ref f10)))
    (l10 : K.lookup f10 = some ⟨oc10, od10, .func (PySem.W.fnOf "back_table" "back_table" (defArgs s_back_table) (defBody s_back_table) (defScope s_back_table) .none kV10 dc10 pm10 an10 cd10 ct10), sl10⟩)
    (c10 : PySem.W.codeIn K cd10 "back_table" = true)
    (k10 : PySem.W.keepIn K (.ref f10) = true)
    {od11 an11 : Option Addr} {sl11 : Array (Option Value)} {oc11 kV11 dc11 pm11 ct11 cd11 : Value}
    (a11 : PySem.W.nsIn K mainGlobals "_law_pen" = some (some (.ref f11)))
    (l11 : K.lookup f11 = some ⟨oc11, od11, .func (PySem.W.fnOf "_law_pen" "_law_pen" (defArgs s__law_pen) (defBody s__law_pen) (defScope s__law_pen) .none kV11 dc11 pm11 an11 cd11 ct11), sl11⟩)
    (c11 : PySem.W.codeIn K cd11 "_law_pen" = true)
    (k11 : PySem.W.keepIn K (.ref f11) = true)
    {od12 an12 : Option Addr} {sl12 : Array (Option Value)} {oc12 kV12 dc12 pm12 ct12 cd12 : Value}
    (a12 : PySem.W.nsIn K mainGlobals "_law_draw" = some (some (.ref f12)))
    (l12 : K.lookup f12 = some ⟨oc12, od12, .func (PySem.W.fnOf "_law_draw" "_law_draw" (defArgs s__law_draw) (defBody s__law_draw) (defScope s__law_draw) .none kV12 dc12 pm12 an12 cd12 ct12), sl12⟩)
    (c12 : PySem.W.codeIn K cd12 "_law_draw" = true)
    (k12 : PySem.W.keepIn K (.ref f12) = true)
    {od13 an13 : Option Addr} {sl13 : Array (Option Value)} {oc13 kV13 dc13 pm13 ct13 cd13 : Value}
    (a13 : PySem.W.nsIn K mainGlobals "_law_pick" = some (some (.ref f13)))
    (l13 : K.lookup f13 = some ⟨oc13, od13, .func (PySem.W.fnOf "_law_pick" "_law_pick" (defArgs s__law_pick) (defBody s__law_pick) (defScope s__law_pick) .none kV13 dc13 pm13 an13 cd13 ct13), sl13⟩)
    (c13 : PySem.W.codeIn K cd13 "_law_pick" = true)
    (k13 : PySem.W.keepIn K (.ref f13) = true)
    {od14 an14 : Option Addr} {sl14 : Array (Option Value)} {oc14 kV14 dc14 pm14 ct14 cd14 : Value}
    (a14 : PySem.W.nsIn K mainGlobals "_law_fault" = some (some (.ref f14)))
    (l14 : K.lookup f14 = some ⟨oc14, od14, .func (PySem.W.fnOf "_law_fault" "_law_fault" (defArgs s__law_fault) (defBody s__law_fault) (defScope s__law_fault) .none kV14 dc14 pm14 an14 cd14 ct14), sl14⟩)
    (c14 : PySem.W.codeIn K cd14 "_law_fault" = true)
    (k14 : PySem.W.keepIn K (.ref f14) = true)
    {od15 an15 : Option Addr} {sl15 : Array (Option Value)} {oc15 kV15 dc15 pm15 ct15 cd15 : Value}
    (a15 : PySem.W.nsIn K mainGlobals "_law_is_fault" = some (some (.ref f15)))
    (l15 : K.lookup f15 = some ⟨oc15, od15, .func (PySem.W.fnOf "_law_is_fault" "_law_is_fault" (defArgs s__law_is_fault) (defBody s__law_is_fault) (defScope s__law_is_fault) .none kV15 dc15 pm15 an15 cd15 ct15), sl15⟩)
    (c15 : PySem.W.codeIn K cd15 "_law_is_fault" = true)
    (k15 : PySem.W.keepIn K (.ref f15) = true)
    {od16 an16 : Option Addr} {sl16 : Array (Option Value)} {oc16 kV16 dc16 pm16 ct16 cd16 : Value}
    (a16 : PySem.W.nsIn K mainGlobals "_law_gauss" = some (some (.ref f16)))
    (l16 : K.lookup f16 = some ⟨oc16, od16, .func (PySem.W.fnOf "_law_gauss" "_law_gauss" (defArgs s__law_gauss) (defBody s__law_gauss) (defScope s__law_gauss) .none kV16 dc16 pm16 an16 cd16 ct16), sl16⟩)
    (c16 : PySem.W.codeIn K cd16 "_law_gauss" = true)
    (k16 : PySem.W.keepIn K (.ref f16) = true)
    {od17 an17 : Option Addr} {sl17 : Array (Option Value)} {oc17 kV17 dc17 pm17 ct17 cd17 : Value}
    (a17 : PySem.W.nsIn K mainGlobals "_law_worth" = some (some (.ref f17)))
    (l17 : K.lookup f17 = some ⟨oc17, od17, .func (PySem.W.fnOf "_law_worth" "_law_worth" (defArgs s__law_worth) (defBody s__law_worth) (defScope s__law_worth) .none kV17 dc17 pm17 an17 cd17 ct17), sl17⟩)
    (c17 : PySem.W.codeIn K cd17 "_law_worth" = true)
    (k17 : PySem.W.keepIn K (.ref f17) = true)
    {od18 an18 : Option Addr} {sl18 : Array (Option Value)} {oc18 kV18 dc18 pm18 ct18 cd18 : Value}
    (a18 : PySem.W.nsIn K mainGlobals "_law_power" = some (some (.ref f18)))
    (l18 : K.lookup f18 = some ⟨oc18, od18, .func (PySem.W.fnOf "_law_power" "_law_power" (defArgs s__law_power) (defBody s__law_power) (defScope s__law_power) .none kV18 dc18 pm18 an18 cd18 ct18), sl18⟩)
    (c18 : PySem.W.codeIn K cd18 "_law_power" = true)
    (k18 : PySem.W.keepIn K (.ref f18) = true)
    {od19 an19 : Option Addr} {sl19 : Array (Option Value)} {oc19 kV19 dc19 pm19 ct19 cd19 : Value}
    (a19 : PySem.W.nsIn K mainGlobals "_law_product_of" = some (some (.ref f19)))
    (l19 : K.lookup f19 = some ⟨oc19, od19, .func (PySem.W.fnOf "_law_product_of" "_law_product_of" (defArgs s__law_product_of) (defBody s__law_product_of) (defScope s__law_product_of) .none kV19 dc19 pm19 an19 cd19 ct19), sl19⟩)
    (c19 : PySem.W.codeIn K cd19 "_law_product_of" = true)
    (k19 : PySem.W.keepIn K (.ref f19) = true)
    {od20 an20 : Option Addr} {sl20 : Array (Option Value)} {oc20 kV20 dc20 pm20 ct20 : Value}
    (a20 : PySem.W.nsIn K mainGlobals "law" = some (some (.ref f20)))
    (l20 : K.lookup f20 = some ⟨oc20, od20, .func (PySem.W.fnOf "law" "law" (defArgs s_law) (defBody s_law) (defScope s_law) .none kV20 dc20 pm20 an20 (.ref c) ct20), sl20⟩)
    (c20 : PySem.W.codeIn K (.ref c) "law" = true)
    (k20 : PySem.W.keepIn K (.ref f20) = true)
    {nmBadNumber qqBadNumber : Str} {NBadNumber : Addr} {bsBadNumber bmBadNumber sbBadNumber : List Value} {snBadNumber : List Str} {abBadNumber : Bool} {coBadNumber : Option Bool} {ddBadNumber : Option Addr} {m0BadNumber m1BadNumber m2BadNumber m3BadNumber m5BadNumber : Option Value} {odBadNumber anBadNumber : Option Addr} {slBadNumber : Array (Option Value)} {ocBadNumber kVBadNumber dcBadNumber pmBadNumber ctBadNumber cdBadNumber : Value}
    (aBadNumber : PySem.W.nsIn K mainGlobals "BadNumber" = some (some (.ref CBadNumber)))
    (xBadNumber : K.lookup CBadNumber = some (excClassObj nmBadNumber qqBadNumber CBadNumber NBadNumber bsBadNumber bmBadNumber true snBadNumber sbBadNumber abBadNumber coBadNumber ddBadNumber m0BadNumber m1BadNumber m2BadNumber m3BadNumber m5BadNumber "ValueError.__new__"))
    (vBadNumber : PySem.HandSPX.refsVE bmBadNumber = true)
    (saBadNumber : PySem.W.findIn K (.ref CBadNumber) "__setattr__" = some (some (.builtin "object.__setattr__")))
    (eCBadNumber : PySem.W.subIn K (.ref CBadNumber) (.type "BaseException") = some true)
    (tCBadNumber : PySem.W.typeIn K (.ref CBadNumber) = some (.type "type"))
    (icBadNumber : PySem.W.isClsIn K CBadNumber = true)
    (kCBadNumber : PySem.W.keepIn K (.ref CBadNumber) = true)
    (gaBadNumber : PySem.W.findIn K (.ref CBadNumber) "__getattribute__" = some (some (.builtin "BaseException.__getattribute__")))
    (ggBadNumber : PySem.W.findIn K (.ref CBadNumber) "__getattr__" = some none)
    (hdBadNumber : PySem.W.hasDictIn K CBadNumber = true)
    (nBadNumberwhat : PySem.W.findIn K (.ref CBadNumber) "what" = some none)
    (nBadNumbernumber : PySem.W.findIn K (.ref CBadNumber) "number" = some none)
    (iBadNumber : PySem.W.findIn K (.ref CBadNumber) "__init__" = some (some (.ref IBadNumber)))
    (tBadNumber : PySem.W.typeIn K (.ref IBadNumber) = some (.type "function"))
    (lBadNumber : K.lookup IBadNumber = some ⟨ocBadNumber, odBadNumber, .func (PySem.W.fnOf "__init__" "BadNumber.__init__" (defArgs si_BadNumber) (defBody si_BadNumber) (defScope si_BadNumber) .none kVBadNumber dcBadNumber pmBadNumber anBadNumber cdBadNumber ctBadNumber), slBadNumber⟩)
    (cBadNumber : PySem.W.codeIn K cdBadNumber "BadNumber.__init__" = true)
    (kBadNumber : PySem.W.keepIn K (.ref IBadNumber) = true)
    {nmBadSum qqBadSum : Str} {NBadSum : Addr} {bsBadSum bmBadSum sbBadSum : List Value} {snBadSum : List Str} {abBadSum : Bool} {coBadSum : Option Bool} {ddBadSum : Option Addr} {m0BadSum m1BadSum m2BadSum m3BadSum m5BadSum : Option Value} {odBadSum anBadSum : Option Addr} {slBadSum : Array (Option Value)} {ocBadSum kVBadSum dcBadSum pmBadSum ctBadSum cdBadSum : Value}
    (aBadSum : PySem.W.nsIn K mainGlobals "BadSum" = some (some (.ref CBadSum)))
    (xBadSum : K.lookup CBadSum = some (excClassObj nmBadSum qqBadSum CBadSum NBadSum bsBadSum bmBadSum true snBadSum sbBadSum abBadSum coBadSum ddBadSum m0BadSum m1BadSum m2BadSum m3BadSum m5BadSum "ValueError.__new__"))
    (vBadSum : PySem.HandSPX.refsVE bmBadSum = true)
    (saBadSum : PySem.W.findIn K (.ref CBadSum) "__setattr__" = some (some (.builtin "object.__setattr__")))
    (eCBadSum : PySem.W.subIn K (.ref CBadSum) (.type "BaseException") = some true)
    (tCBadSum : PySem.W.typeIn K (.ref CBadSum) = some (.type "type"))
    (icBadSum : PySem.W.isClsIn K CBadSum = true)
    (kCBadSum : PySem.W.keepIn K (.ref CBadSum) = true)
    (gaBadSum : PySem.W.findIn K (.ref CBadSum) "__getattribute__" = some (some (.builtin "BaseException.__getattribute__")))
    (ggBadSum : PySem.W.findIn K (.ref CBadSum) "__getattr__" = some none)
    (hdBadSum : PySem.W.hasDictIn K CBadSum = true)
    (nBadSumvalue : PySem.W.findIn K (.ref CBadSum) "value" = some none)
    (iBadSum : PySem.W.findIn K (.ref CBadSum) "__init__" = some (some (.ref IBadSum)))
    (tBadSum : PySem.W.typeIn K (.ref IBadSum) = some (.type "function"))
    (lBadSum : K.lookup IBadSum = some ⟨ocBadSum, odBadSum, .func (PySem.W.fnOf "__init__" "BadSum.__init__" (defArgs si_BadSum) (defBody si_BadSum) (defScope si_BadSum) .none kVBadSum dcBadSum pmBadSum anBadSum cdBadSum ctBadSum), slBadSum⟩)
    (cBadSum : PySem.W.codeIn K cdBadSum "BadSum.__init__" = true)
    (kBadSum : PySem.W.keepIn K (.ref IBadSum) = true)
    {nmBadRow qqBadRow : Str} {NBadRow : Addr} {bsBadRow bmBadRow sbBadRow : List Value} {snBadRow : List Str} {abBadRow : Bool} {coBadRow : Option Bool} {ddBadRow : Option Addr} {m0BadRow m1BadRow m2BadRow m3BadRow m5BadRow : Option Value} {odBadRow anBadRow : Option Addr} {slBadRow : Array (Option Value)} {ocBadRow kVBadRow dcBadRow pmBadRow ctBadRow cdBadRow : Value}
    (aBadRow : PySem.W.nsIn K mainGlobals "BadRow" = some (some (.ref CBadRow)))
    (xBadRow : K.lookup CBadRow = some (excClassObj nmBadRow qqBadRow CBadRow NBadRow bsBadRow bmBadRow true snBadRow sbBadRow abBadRow coBadRow ddBadRow m0BadRow m1BadRow m2BadRow m3BadRow m5BadRow "ValueError.__new__"))
    (vBadRow : PySem.HandSPX.refsVE bmBadRow = true)
    (saBadRow : PySem.W.findIn K (.ref CBadRow) "__setattr__" = some (some (.builtin "object.__setattr__")))
    (eCBadRow : PySem.W.subIn K (.ref CBadRow) (.type "BaseException") = some true)
    (tCBadRow : PySem.W.typeIn K (.ref CBadRow) = some (.type "type"))
    (icBadRow : PySem.W.isClsIn K CBadRow = true)
    (kCBadRow : PySem.W.keepIn K (.ref CBadRow) = true)
    (gaBadRow : PySem.W.findIn K (.ref CBadRow) "__getattribute__" = some (some (.builtin "BaseException.__getattribute__")))
    (ggBadRow : PySem.W.findIn K (.ref CBadRow) "__getattr__" = some none)
    (hdBadRow : PySem.W.hasDictIn K CBadRow = true)
    (nBadRowrow : PySem.W.findIn K (.ref CBadRow) "row" = some none)
    (iBadRow : PySem.W.findIn K (.ref CBadRow) "__init__" = some (some (.ref IBadRow)))
    (tBadRow : PySem.W.typeIn K (.ref IBadRow) = some (.type "function"))
    (lBadRow : K.lookup IBadRow = some ⟨ocBadRow, odBadRow, .func (PySem.W.fnOf "__init__" "BadRow.__init__" (defArgs si_BadRow) (defBody si_BadRow) (defScope si_BadRow) .none kVBadRow dcBadRow pmBadRow anBadRow cdBadRow ctBadRow), slBadRow⟩)
    (cBadRow : PySem.W.codeIn K cdBadRow "BadRow.__init__" = true)
    (kBadRow : PySem.W.keepIn K (.ref IBadRow) = true)
    {nmBadTable qqBadTable : Str} {NBadTable : Addr} {bsBadTable bmBadTable sbBadTable : List Value} {snBadTable : List Str} {abBadTable : Bool} {coBadTable : Option Bool} {ddBadTable : Option Addr} {m0BadTable m1BadTable m2BadTable m3BadTable m5BadTable : Option Value} {odBadTable anBadTable : Option Addr} {slBadTable : Array (Option Value)} {ocBadTable kVBadTable dcBadTable pmBadTable ctBadTable cdBadTable : Value}
    (aBadTable : PySem.W.nsIn K mainGlobals "BadTable" = some (some (.ref CBadTable)))
    (xBadTable : K.lookup CBadTable = some (excClassObj nmBadTable qqBadTable CBadTable NBadTable bsBadTable bmBadTable true snBadTable sbBadTable abBadTable coBadTable ddBadTable m0BadTable m1BadTable m2BadTable m3BadTable m5BadTable "ValueError.__new__"))
    (vBadTable : PySem.HandSPX.refsVE bmBadTable = true)
    (saBadTable : PySem.W.findIn K (.ref CBadTable) "__setattr__" = some (some (.builtin "object.__setattr__")))
    (eCBadTable : PySem.W.subIn K (.ref CBadTable) (.type "BaseException") = some true)
    (tCBadTable : PySem.W.typeIn K (.ref CBadTable) = some (.type "type"))
    (icBadTable : PySem.W.isClsIn K CBadTable = true)
    (kCBadTable : PySem.W.keepIn K (.ref CBadTable) = true)
    (gaBadTable : PySem.W.findIn K (.ref CBadTable) "__getattribute__" = some (some (.builtin "BaseException.__getattribute__")))
    (ggBadTable : PySem.W.findIn K (.ref CBadTable) "__getattr__" = some none)
    (hdBadTable : PySem.W.hasDictIn K CBadTable = true)
    (nBadTabletable : PySem.W.findIn K (.ref CBadTable) "table" = some none)
    (iBadTable : PySem.W.findIn K (.ref CBadTable) "__init__" = some (some (.ref IBadTable)))
    (tBadTable : PySem.W.typeIn K (.ref IBadTable) = some (.type "function"))
    (lBadTable : K.lookup IBadTable = some ⟨ocBadTable, odBadTable, .func (PySem.W.fnOf "__init__" "BadTable.__init__" (defArgs si_BadTable) (defBody si_BadTable) (defScope si_BadTable) .none kVBadTable dcBadTable pmBadTable anBadTable cdBadTable ctBadTable), slBadTable⟩)
    (cBadTable : PySem.W.codeIn K cdBadTable "BadTable.__init__" = true)
    (kBadTable : PySem.W.keepIn K (.ref IBadTable) = true)
    {nmBadRule qqBadRule : Str} {NBadRule : Addr} {bsBadRule bmBadRule sbBadRule : List Value} {snBadRule : List Str} {abBadRule : Bool} {coBadRule : Option Bool} {ddBadRule : Option Addr} {m0BadRule m1BadRule m2BadRule m3BadRule m5BadRule : Option Value} {odBadRule anBadRule : Option Addr} {slBadRule : Array (Option Value)} {ocBadRule kVBadRule dcBadRule pmBadRule ctBadRule cdBadRule : Value}
    (aBadRule : PySem.W.nsIn K mainGlobals "BadRule" = some (some (.ref CBadRule)))
    (xBadRule : K.lookup CBadRule = some (excClassObj nmBadRule qqBadRule CBadRule NBadRule bsBadRule bmBadRule true snBadRule sbBadRule abBadRule coBadRule ddBadRule m0BadRule m1BadRule m2BadRule m3BadRule m5BadRule "ValueError.__new__"))
    (vBadRule : PySem.HandSPX.refsVE bmBadRule = true)
    (saBadRule : PySem.W.findIn K (.ref CBadRule) "__setattr__" = some (some (.builtin "object.__setattr__")))
    (eCBadRule : PySem.W.subIn K (.ref CBadRule) (.type "BaseException") = some true)
    (tCBadRule : PySem.W.typeIn K (.ref CBadRule) = some (.type "type"))
    (icBadRule : PySem.W.isClsIn K CBadRule = true)
    (kCBadRule : PySem.W.keepIn K (.ref CBadRule) = true)
    (gaBadRule : PySem.W.findIn K (.ref CBadRule) "__getattribute__" = some (some (.builtin "BaseException.__getattribute__")))
    (ggBadRule : PySem.W.findIn K (.ref CBadRule) "__getattr__" = some none)
    (hdBadRule : PySem.W.hasDictIn K CBadRule = true)
    (nBadRulewhat : PySem.W.findIn K (.ref CBadRule) "what" = some none)
    (nBadRulevalue : PySem.W.findIn K (.ref CBadRule) "value" = some none)
    (iBadRule : PySem.W.findIn K (.ref CBadRule) "__init__" = some (some (.ref IBadRule)))
    (tBadRule : PySem.W.typeIn K (.ref IBadRule) = some (.type "function"))
    (lBadRule : K.lookup IBadRule = some ⟨ocBadRule, odBadRule, .func (PySem.W.fnOf "__init__" "BadRule.__init__" (defArgs si_BadRule) (defBody si_BadRule) (defScope si_BadRule) .none kVBadRule dcBadRule pmBadRule anBadRule cdBadRule ctBadRule), slBadRule⟩)
    (cBadRule : PySem.W.codeIn K cdBadRule "BadRule.__init__" = true)
    (kBadRule : PySem.W.keepIn K (.ref IBadRule) = true)
    {nmUnlike qqUnlike : Str} {NUnlike : Addr} {bsUnlike bmUnlike sbUnlike : List Value} {snUnlike : List Str} {abUnlike : Bool} {coUnlike : Option Bool} {ddUnlike : Option Addr} {m0Unlike m1Unlike m2Unlike m3Unlike m5Unlike : Option Value} {odUnlike anUnlike : Option Addr} {slUnlike : Array (Option Value)} {ocUnlike kVUnlike dcUnlike pmUnlike ctUnlike cdUnlike : Value}
    (aUnlike : PySem.W.nsIn K mainGlobals "Unlike" = some (some (.ref CUnlike)))
    (xUnlike : K.lookup CUnlike = some (excClassObj nmUnlike qqUnlike CUnlike NUnlike bsUnlike bmUnlike true snUnlike sbUnlike abUnlike coUnlike ddUnlike m0Unlike m1Unlike m2Unlike m3Unlike m5Unlike "ValueError.__new__"))
    (vUnlike : PySem.HandSPX.refsVE bmUnlike = true)
    (saUnlike : PySem.W.findIn K (.ref CUnlike) "__setattr__" = some (some (.builtin "object.__setattr__")))
    (eCUnlike : PySem.W.subIn K (.ref CUnlike) (.type "BaseException") = some true)
    (tCUnlike : PySem.W.typeIn K (.ref CUnlike) = some (.type "type"))
    (icUnlike : PySem.W.isClsIn K CUnlike = true)
    (kCUnlike : PySem.W.keepIn K (.ref CUnlike) = true)
    (gaUnlike : PySem.W.findIn K (.ref CUnlike) "__getattribute__" = some (some (.builtin "BaseException.__getattribute__")))
    (ggUnlike : PySem.W.findIn K (.ref CUnlike) "__getattr__" = some none)
    (hdUnlike : PySem.W.hasDictIn K CUnlike = true)
    (nUnlikewhat : PySem.W.findIn K (.ref CUnlike) "what" = some none)
    (iUnlike : PySem.W.findIn K (.ref CUnlike) "__init__" = some (some (.ref IUnlike)))
    (tUnlike : PySem.W.typeIn K (.ref IUnlike) = some (.type "function"))
    (lUnlike : K.lookup IUnlike = some ⟨ocUnlike, odUnlike, .func (PySem.W.fnOf "__init__" "Unlike.__init__" (defArgs si_Unlike) (defBody si_Unlike) (defScope si_Unlike) .none kVUnlike dcUnlike pmUnlike anUnlike cdUnlike ctUnlike), slUnlike⟩)
    (cUnlike : PySem.W.codeIn K cdUnlike "Unlike.__init__" = true)
    (kUnlike : PySem.W.keepIn K (.ref IUnlike) = true)
    {nmTooMany qqTooMany : Str} {NTooMany : Addr} {bsTooMany bmTooMany sbTooMany : List Value} {snTooMany : List Str} {abTooMany : Bool} {coTooMany : Option Bool} {ddTooMany : Option Addr} {m0TooMany m1TooMany m2TooMany m3TooMany m5TooMany : Option Value} {odTooMany anTooMany : Option Addr} {slTooMany : Array (Option Value)} {ocTooMany kVTooMany dcTooMany pmTooMany ctTooMany cdTooMany : Value}
    (aTooMany : PySem.W.nsIn K mainGlobals "TooMany" = some (some (.ref CTooMany)))
    (xTooMany : K.lookup CTooMany = some (excClassObj nmTooMany qqTooMany CTooMany NTooMany bsTooMany bmTooMany true snTooMany sbTooMany abTooMany coTooMany ddTooMany m0TooMany m1TooMany m2TooMany m3TooMany m5TooMany "ValueError.__new__"))
    (vTooMany : PySem.HandSPX.refsVE bmTooMany = true)
    (saTooMany : PySem.W.findIn K (.ref CTooMany) "__setattr__" = some (some (.builtin "object.__setattr__")))
    (eCTooMany : PySem.W.subIn K (.ref CTooMany) (.type "BaseException") = some true)
    (tCTooMany : PySem.W.typeIn K (.ref CTooMany) = some (.type "type"))
    (icTooMany : PySem.W.isClsIn K CTooMany = true)
    (kCTooMany : PySem.W.keepIn K (.ref CTooMany) = true)
    (gaTooMany : PySem.W.findIn K (.ref CTooMany) "__getattribute__" = some (some (.builtin "BaseException.__getattribute__")))
    (ggTooMany : PySem.W.findIn K (.ref CTooMany) "__getattr__" = some none)
    (hdTooMany : PySem.W.hasDictIn K CTooMany = true)
    (nTooManywhat : PySem.W.findIn K (.ref CTooMany) "what" = some none)
    (nTooManymany : PySem.W.findIn K (.ref CTooMany) "many" = some none)
    (nTooManylimit : PySem.W.findIn K (.ref CTooMany) "limit" = some none)
    (iTooMany : PySem.W.findIn K (.ref CTooMany) "__init__" = some (some (.ref ITooMany)))
    (tTooMany : PySem.W.typeIn K (.ref ITooMany) = some (.type "function"))
    (lTooMany : K.lookup ITooMany = some ⟨ocTooMany, odTooMany, .func (PySem.W.fnOf "__init__" "TooMany.__init__" (defArgs si_TooMany) (defBody si_TooMany) (defScope si_TooMany) .none kVTooMany dcTooMany pmTooMany anTooMany cdTooMany ctTooMany), slTooMany⟩)
    (cTooMany : PySem.W.codeIn K cdTooMany "TooMany.__init__" = true)
    (kTooMany : PySem.W.keepIn K (.ref ITooMany) = true)
    (aPartError : PySem.W.nsIn K mainGlobals "PartError" = some (some (.ref BPartError)))
    (spPartError : PySem.W.specialIn K (.ref BPartError) "__getattribute__" = some (some (.builtin "type.__getattribute__")))
    (rdPartError : PySem.W.readsIn K BPartError (.type "type") = true)
    (fcPartError : PySem.W.findCls K (.ref BPartError) (.type "type") "__init__" = some (.val (.builtin "ValueError.__init__")))
    (eBadNumberBadNumber : PySem.W.subIn K (.ref CBadNumber) (.ref CBadNumber) = some true)
    (eBadNumberBadSum : PySem.W.subIn K (.ref CBadNumber) (.ref CBadSum) = some false)
    (eBadNumberBadRow : PySem.W.subIn K (.ref CBadNumber) (.ref CBadRow) = some false)
    (eBadNumberBadTable : PySem.W.subIn K (.ref CBadNumber) (.ref CBadTable) = some false)
    (eBadNumberBadRule : PySem.W.subIn K (.ref CBadNumber) (.ref CBadRule) = some false)
    (eBadNumberUnlike : PySem.W.subIn K (.ref CBadNumber) (.ref CUnlike) = some false)
    (eBadNumberTooMany : PySem.W.subIn K (.ref CBadNumber) (.ref CTooMany) = some false)
    (eBadSumBadNumber : PySem.W.subIn K (.ref CBadSum) (.ref CBadNumber) = some false)
    (eBadSumBadSum : PySem.W.subIn K (.ref CBadSum) (.ref CBadSum) = some true)
    (eBadSumBadRow : PySem.W.subIn K (.ref CBadSum) (.ref CBadRow) = some false)
    (eBadSumBadTable : PySem.W.subIn K (.ref CBadSum) (.ref CBadTable) = some false)
    (eBadSumBadRule : PySem.W.subIn K (.ref CBadSum) (.ref CBadRule) = some false)
    (eBadSumUnlike : PySem.W.subIn K (.ref CBadSum) (.ref CUnlike) = some false)
    (eBadSumTooMany : PySem.W.subIn K (.ref CBadSum) (.ref CTooMany) = some false)
    (eBadRowBadNumber : PySem.W.subIn K (.ref CBadRow) (.ref CBadNumber) = some false)
    (eBadRowBadSum : PySem.W.subIn K (.ref CBadRow) (.ref CBadSum) = some false)
    (eBadRowBadRow : PySem.W.subIn K (.ref CBadRow) (.ref CBadRow) = some true)
    (eBadRowBadTable : PySem.W.subIn K (.ref CBadRow) (.ref CBadTable) = some false)
    (eBadRowBadRule : PySem.W.subIn K (.ref CBadRow) (.ref CBadRule) = some false)
    (eBadRowUnlike : PySem.W.subIn K (.ref CBadRow) (.ref CUnlike) = some false)
    (eBadRowTooMany : PySem.W.subIn K (.ref CBadRow) (.ref CTooMany) = some false)
    (eBadTableBadNumber : PySem.W.subIn K (.ref CBadTable) (.ref CBadNumber) = some false)
    (eBadTableBadSum : PySem.W.subIn K (.ref CBadTable) (.ref CBadSum) = some false)
    (eBadTableBadRow : PySem.W.subIn K (.ref CBadTable) (.ref CBadRow) = some false)
    (eBadTableBadTable : PySem.W.subIn K (.ref CBadTable) (.ref CBadTable) = some true)
    (eBadTableBadRule : PySem.W.subIn K (.ref CBadTable) (.ref CBadRule) = some false)
    (eBadTableUnlike : PySem.W.subIn K (.ref CBadTable) (.ref CUnlike) = some false)
    (eBadTableTooMany : PySem.W.subIn K (.ref CBadTable) (.ref CTooMany) = some false)
    (eBadRuleBadNumber : PySem.W.subIn K (.ref CBadRule) (.ref CBadNumber) = some false)
    (eBadRuleBadSum : PySem.W.subIn K (.ref CBadRule) (.ref CBadSum) = some false)
    (eBadRuleBadRow : PySem.W.subIn K (.ref CBadRule) (.ref CBadRow) = some false)
    (eBadRuleBadTable : PySem.W.subIn K (.ref CBadRule) (.ref CBadTable) = some false)
    (eBadRuleBadRule : PySem.W.subIn K (.ref CBadRule) (.ref CBadRule) = some true)
    (eBadRuleUnlike : PySem.W.subIn K (.ref CBadRule) (.ref CUnlike) = some false)
    (eBadRuleTooMany : PySem.W.subIn K (.ref CBadRule) (.ref CTooMany) = some false)
    (eUnlikeBadNumber : PySem.W.subIn K (.ref CUnlike) (.ref CBadNumber) = some false)
    (eUnlikeBadSum : PySem.W.subIn K (.ref CUnlike) (.ref CBadSum) = some false)
    (eUnlikeBadRow : PySem.W.subIn K (.ref CUnlike) (.ref CBadRow) = some false)
    (eUnlikeBadTable : PySem.W.subIn K (.ref CUnlike) (.ref CBadTable) = some false)
    (eUnlikeBadRule : PySem.W.subIn K (.ref CUnlike) (.ref CBadRule) = some false)
    (eUnlikeUnlike : PySem.W.subIn K (.ref CUnlike) (.ref CUnlike) = some true)
    (eUnlikeTooMany : PySem.W.subIn K (.ref CUnlike) (.ref CTooMany) = some false)
    (eTooManyBadNumber : PySem.W.subIn K (.ref CTooMany) (.ref CBadNumber) = some false)
    (eTooManyBadSum : PySem.W.subIn K (.ref CTooMany) (.ref CBadSum) = some false)
    (eTooManyBadRow : PySem.W.subIn K (.ref CTooMany) (.ref CBadRow) = some false)
    (eTooManyBadTable : PySem.W.subIn K (.ref CTooMany) (.ref CBadTable) = some false)
    (eTooManyBadRule : PySem.W.subIn K (.ref CTooMany) (.ref CBadRule) = some false)
    (eTooManyUnlike : PySem.W.subIn K (.ref CTooMany) (.ref CUnlike) = some false)
    (eTooManyTooMany : PySem.W.subIn K (.ref CTooMany) (.ref CTooMany) = some true)
    (zall : PySem.W.nsIn K mainGlobals "all" = some none)
    (zbool : PySem.W.nsIn K mainGlobals "bool" = some none)
    (zenumerate : PySem.W.nsIn K mainGlobals "enumerate" = some none)
    (zint : PySem.W.nsIn K mainGlobals "int" = some none)
    (zisinstance : PySem.W.nsIn K mainGlobals "isinstance" = some none)
    (zlen : PySem.W.nsIn K mainGlobals "len" = some none)
    (zlist : PySem.W.nsIn K mainGlobals "list" = some none)
    (zmax : PySem.W.nsIn K mainGlobals "max" = some none)
    (zrange : PySem.W.nsIn K mainGlobals "range" = some none)
    (zrepr : PySem.W.nsIn K mainGlobals "repr" = some none)
    (zsum : PySem.W.nsIn K mainGlobals "sum" = some none)
    (ztuple : PySem.W.nsIn K mainGlobals "tuple" = some none)
    (zzip : PySem.W.nsIn K mainGlobals "zip" = some none)
    {tMOST_TABLE : Tok}
    (mMOST_TABLE : PySem.W.nsIn K mainGlobals "MOST_TABLE" = some (some (.int 8 tMOST_TABLE)))
    {tMOST_DIGIT : Tok}
    (mMOST_DIGIT : PySem.W.nsIn K mainGlobals "MOST_DIGIT" = some (some (.int 9 tMOST_DIGIT)))
    (ok : ∀ ns : List Int, ns.length ≤ 63 → lawOk (m_law (startL 16) (some (penNew ns)))) :
    ∀ base : Heap, K.In base → base.Ns mainGlobals mg → LamX.TabB base mg c t → FnG P w K mg base 10 fa (spLaw K [(t, lawQ)] 63) := by
  intro base _ _ TB
  have e := hfa.symm.trans (PySem.W.mg_of X G a20)
  cases e
  let T0 : Tx := tx K [f0, f1, f2, f3, f4, f5, f6, f7, f8, f9, f10, f11, f12, f13, f14, f15, f16, f17, f18, f19, fa] [CBadNumber, CBadSum, CBadRow, CBadTable, CBadRule, CUnlike, CTooMany]
  have T : Txt P w K mg base T0 :=
    { hK := rfl,
      b_all := PySem.W.mg_none_of X G zall,
      b_bool := PySem.W.mg_none_of X G zbool,
      b_enumerate := PySem.W.mg_none_of X G zenumerate,
      b_int := PySem.W.mg_none_of X G zint,
      b_isinstance := PySem.W.mg_none_of X G zisinstance,
      b_len := PySem.W.mg_none_of X G zlen,
      b_list := PySem.W.mg_none_of X G zlist,
      b_max := PySem.W.mg_none_of X G zmax,
      b_range := PySem.W.mg_none_of X G zrange,
      b_repr := PySem.W.mg_none_of X G zrepr,
      b_sum := PySem.W.mg_none_of X G zsum,
      b_tuple := PySem.W.mg_none_of X G ztuple,
      b_zip := PySem.W.mg_none_of X G zzip,
      c_MOST_TABLE := ⟨_, PySem.W.mg_of X G mMOST_TABLE⟩,
      c_MOST_DIGIT := ⟨_, PySem.W.mg_of X G mMOST_DIGIT⟩,
      g_is_whole := PySem.W.mg_of X G a0,
      k_is_whole := k0,
      f_is_whole := ⟨_, fun_mk l0 c0 k0, (fun_mk (st := s_is_whole) l0 c0 k0).binds fun _ _ _ _ _ _ us hl => match us, hl with | [_], _ => rfl⟩,
      g_need_between := PySem.W.mg_of X G a1,
      k_need_between := k1,
      f_need_between := ⟨_, fun_mk l1 c1 k1, (fun_mk (st := s_need_between) l1 c1 k1).binds fun _ _ _ _ _ _ us hl => match us, hl with | [_, _, _, _], _ => rfl⟩,
      g_put_later := PySem.W.mg_of X G a2,
      k_put_later := k2,
      f_put_later := ⟨_, fun_mk l2 c2 k2, (fun_mk (st := s_put_later) l2 c2 k2).binds fun _ _ _ _ _ _ us hl => match us, hl with | [_, _, _], _ => rfl⟩,
      g_gauss_rows := PySem.W.mg_of X G a3,
      k_gauss_rows := k3,
      f_gauss_rows := ⟨_, fun_mk l3 c3 k3, (fun_mk (st := s_gauss_rows) l3 c3 k3).binds fun _ _ _ _ _ _ us hl => match us, hl with | [_], _ => rfl⟩,
      g_worth_at := PySem.W.mg_of X G a4,
      k_worth_at := k4,
      f_worth_at := ⟨_, fun_mk l4 c4 k4, (fun_mk (st := s_worth_at) l4 c4 k4).binds fun _ _ _ _ _ _ us hl => match us, hl with | [_, _], _ => rfl⟩,
      g_power := PySem.W.mg_of X G a5,
      k_power := k5,
      f_power := ⟨_, fun_mk l5 c5 k5, (fun_mk (st := s_power) l5 c5 k5).binds fun _ _ _ _ _ _ us hl => match us, hl with | [_, _], _ => rfl⟩,
      g_table_by := PySem.W.mg_of X G a6,
      k_table_by := k6,
      f_table_by := ⟨_, fun_mk l6 c6 k6, (fun_mk (st := s_table_by) l6 c6 k6).binds fun _ _ _ _ _ _ us hl => match us, hl with | [_, _], _ => rfl⟩,
      g_need_table := PySem.W.mg_of X G a7,
      k_need_table := k7,
      f_need_table := ⟨_, fun_mk l7 c7 k7, (fun_mk (st := s_need_table) l7 c7 k7).binds fun _ _ _ _ _ _ us hl => match us, hl with | [_, _], _ => rfl⟩,
      g_gauss_table := PySem.W.mg_of X G a8,
      k_gauss_table := k8,
      f_gauss_table := ⟨_, fun_mk l8 c8 k8, (fun_mk (st := s_gauss_table) l8 c8 k8).binds fun _ _ _ _ _ _ us hl => match us, hl with | [_, _], _ => rfl⟩,
      g_back_item := PySem.W.mg_of X G a9,
      k_back_item := k9,
      f_back_item := ⟨_, fun_mk l9 c9 k9, (fun_mk (st := s_back_item) l9 c9 k9).binds fun _ _ _ _ _ _ us hl => match us, hl with | [_, _, _, _], _ => rfl⟩,
      g_back_table := PySem.W.mg_of X G a10,
      k_back_table := k10,
      f_back_table := ⟨_, fun_mk l10 c10 k10, (fun_mk (st := s_back_table) l10 c10 k10).binds fun _ _ _ _ _ _ us hl => match us, hl with | [_, _], _ => rfl⟩,
      g__law_pen := PySem.W.mg_of X G a11,
      k__law_pen := k11,
      f__law_pen := ⟨_, fun_mk l11 c11 k11, (fun_mk (st := s__law_pen) l11 c11 k11).binds fun _ _ _ _ _ _ us hl => match us, hl with | [_], _ => rfl⟩,
      g__law_draw := PySem.W.mg_of X G a12,
      k__law_draw := k12,
      f__law_draw := ⟨_, fun_mk l12 c12 k12, (fun_mk (st := s__law_draw) l12 c12 k12).binds fun _ _ _ _ _ _ us hl => match us, hl with | [_, _], _ => rfl⟩,
      g__law_pick := PySem.W.mg_of X G a13,
      k__law_pick := k13,
      f__law_pick := ⟨_, fun_mk l13 c13 k13, (fun_mk (st := s__law_pick) l13 c13 k13).binds fun _ _ _ _ _ _ us hl => match us, hl with | [_, _], _ => rfl⟩,
      g__law_fault := PySem.W.mg_of X G a14,
      k__law_fault := k14,
      f__law_fault := ⟨_, fun_mk l14 c14 k14, (fun_mk (st := s__law_fault) l14 c14 k14).binds fun _ _ _ _ _ _ us hl => match us, hl with | [_], _ => rfl⟩,
      g__law_is_fault := PySem.W.mg_of X G a15,
      k__law_is_fault := k15,
      f__law_is_fault := ⟨_, fun_mk l15 c15 k15, (fun_mk (st := s__law_is_fault) l15 c15 k15).binds fun _ _ _ _ _ _ us hl => match us, hl with | [_, _], _ => rfl⟩,
      g__law_gauss := PySem.W.mg_of X G a16,
      k__law_gauss := k16,
      f__law_gauss := ⟨_, fun_mk l16 c16 k16, (fun_mk (st := s__law_gauss) l16 c16 k16).binds fun _ _ _ _ _ _ us hl => match us, hl with | [_, _], _ => rfl⟩,
      g__law_worth := PySem.W.mg_of X G a17,
      k__law_worth := k17,
      f__law_worth := ⟨_, fun_mk l17 c17 k17, (fun_mk (st := s__law_worth) l17 c17 k17).binds fun _ _ _ _ _ _ us hl => match us, hl with | [_, _], _ => rfl⟩,
      g__law_power := PySem.W.mg_of X G a18,
      k__law_power := k18,
      f__law_power := ⟨_, fun_mk l18 c18 k18, (fun_mk (st := s__law_power) l18 c18 k18).binds fun _ _ _ _ _ _ us hl => match us, hl with | [_, _], _ => rfl⟩,
      g__law_product_of := PySem.W.mg_of X G a19,
      k__law_product_of := k19,
      f__law_product_of := ⟨_, fun_mk l19 c19 k19, (fun_mk (st := s__law_product_of) l19 c19 k19).binds fun _ _ _ _ _ _ us hl => match us, hl with | [_, _], _ => rfl⟩,
      g_law := PySem.W.mg_of X G a20,
      k_law := k20,
      f_law := ⟨_, fun_mk l20 c20 k20, (fun_mk (st := s_law) l20 c20 k20).binds fun _ _ _ _ _ _ us hl => match us, hl with | [_], _ => rfl⟩,
      e_BadNumber := er_BadNumber (fun_mk (st := si_BadNumber) lBadNumber cBadNumber kBadNumber) ((fun_mk (st := si_BadNumber) lBadNumber cBadNumber kBadNumber).binds fun _ _ _ _ _ _ us hl => match us, hl with | [_, _, _], _ => rfl) ⟨PySem.W.mg_of X G aPartError, spPartError, rdPartError, fcPartError⟩ (PySem.W.mg_of X G aBadNumber) ⟨⟨_, _, _, _, _, _, _, _, _, _, _, _, _, _, _, xBadNumber, vBadNumber⟩, saBadNumber, eCBadNumber, tCBadNumber, kCBadNumber⟩ (List.forall_mem_cons.mpr ⟨nBadNumberwhat, List.forall_mem_cons.mpr ⟨nBadNumbernumber, List.forall_mem_nil _⟩⟩) iBadNumber tBadNumber,
      cf_BadNumber := rfl,
      e_BadSum := er_BadSum (fun_mk (st := si_BadSum) lBadSum cBadSum kBadSum) ((fun_mk (st := si_BadSum) lBadSum cBadSum kBadSum).binds fun _ _ _ _ _ _ us hl => match us, hl with | [_, _], _ => rfl) ⟨PySem.W.mg_of X G aPartError, spPartError, rdPartError, fcPartError⟩ (PySem.W.mg_of X G aBadSum) ⟨⟨_, _, _, _, _, _, _, _, _, _, _, _, _, _, _, xBadSum, vBadSum⟩, saBadSum, eCBadSum, tCBadSum, kCBadSum⟩ (List.forall_mem_cons.mpr ⟨nBadSumvalue, List.forall_mem_nil _⟩) iBadSum tBadSum,
      cf_BadSum := rfl,
      e_BadRow := er_BadRow (fun_mk (st := si_BadRow) lBadRow cBadRow kBadRow) ((fun_mk (st := si_BadRow) lBadRow cBadRow kBadRow).binds fun _ _ _ _ _ _ us hl => match us, hl with | [_, _], _ => rfl) ⟨PySem.W.mg_of X G aPartError, spPartError, rdPartError, fcPartError⟩ (PySem.W.mg_of X G aBadRow) ⟨⟨_, _, _, _, _, _, _, _, _, _, _, _, _, _, _, xBadRow, vBadRow⟩, saBadRow, eCBadRow, tCBadRow, kCBadRow⟩ (List.forall_mem_cons.mpr ⟨nBadRowrow, List.forall_mem_nil _⟩) iBadRow tBadRow,
      cf_BadRow := rfl,
      e_BadTable := er_BadTable (fun_mk (st := si_BadTable) lBadTable cBadTable kBadTable) ((fun_mk (st := si_BadTable) lBadTable cBadTable kBadTable).binds fun _ _ _ _ _ _ us hl => match us, hl with | [_, _], _ => rfl) ⟨PySem.W.mg_of X G aPartError, spPartError, rdPartError, fcPartError⟩ (PySem.W.mg_of X G aBadTable) ⟨⟨_, _, _, _, _, _, _, _, _, _, _, _, _, _, _, xBadTable, vBadTable⟩, saBadTable, eCBadTable, tCBadTable, kCBadTable⟩ (List.forall_mem_cons.mpr ⟨nBadTabletable, List.forall_mem_nil _⟩) iBadTable tBadTable,
      cf_BadTable := rfl,
      e_BadRule := er_BadRule (fun_mk (st := si_BadRule) lBadRule cBadRule kBadRule) ((fun_mk (st := si_BadRule) lBadRule cBadRule kBadRule).binds fun _ _ _ _ _ _ us hl => match us, hl with | [_, _, _], _ => rfl) ⟨PySem.W.mg_of X G aPartError, spPartError, rdPartError, fcPartError⟩ (PySem.W.mg_of X G aBadRule) ⟨⟨_, _, _, _, _, _, _, _, _, _, _, _, _, _, _, xBadRule, vBadRule⟩, saBadRule, eCBadRule, tCBadRule, kCBadRule⟩ (List.forall_mem_cons.mpr ⟨nBadRulewhat, List.forall_mem_cons.mpr ⟨nBadRulevalue, List.forall_mem_nil _⟩⟩) iBadRule tBadRule,
      cf_BadRule := rfl,
      e_Unlike := er_Unlike (fun_mk (st := si_Unlike) lUnlike cUnlike kUnlike) ((fun_mk (st := si_Unlike) lUnlike cUnlike kUnlike).binds fun _ _ _ _ _ _ us hl => match us, hl with | [_, _], _ => rfl) ⟨PySem.W.mg_of X G aPartError, spPartError, rdPartError, fcPartError⟩ (PySem.W.mg_of X G aUnlike) ⟨⟨_, _, _, _, _, _, _, _, _, _, _, _, _, _, _, xUnlike, vUnlike⟩, saUnlike, eCUnlike, tCUnlike, kCUnlike⟩ (List.forall_mem_cons.mpr ⟨nUnlikewhat, List.forall_mem_nil _⟩) iUnlike tUnlike,
      cf_Unlike := rfl,
      e_TooMany := er_TooMany (fun_mk (st := si_TooMany) lTooMany cTooMany kTooMany) ((fun_mk (st := si_TooMany) lTooMany cTooMany kTooMany).binds fun _ _ _ _ _ _ us hl => match us, hl with | [_, _, _, _], _ => rfl) ⟨PySem.W.mg_of X G aPartError, spPartError, rdPartError, fcPartError⟩ (PySem.W.mg_of X G aTooMany) ⟨⟨_, _, _, _, _, _, _, _, _, _, _, _, _, _, _, xTooMany, vTooMany⟩, saTooMany, eCTooMany, tCTooMany, kCTooMany⟩ (List.forall_mem_cons.mpr ⟨nTooManywhat, List.forall_mem_cons.mpr ⟨nTooManymany, List.forall_mem_cons.mpr ⟨nTooManylimit, List.forall_mem_nil _⟩⟩⟩) iTooMany tTooMany,
      cf_TooMany := rfl,
      kl := rfl,
      cft := List.forall_mem_cons.mpr ⟨rfl, List.forall_mem_cons.mpr ⟨rfl, List.forall_mem_cons.mpr ⟨rfl, List.forall_mem_cons.mpr ⟨rfl, List.forall_mem_cons.mpr ⟨rfl, List.forall_mem_cons.mpr ⟨rfl, List.forall_mem_cons.mpr ⟨rfl, List.forall_mem_nil _⟩⟩⟩⟩⟩⟩⟩,
      exm := List.forall_mem_cons.mpr ⟨List.forall_mem_cons.mpr ⟨exm_of eCBadNumber icBadNumber tCBadNumber eBadNumberBadNumber, List.forall_mem_cons.mpr ⟨exm_of eCBadRow icBadRow tCBadRow eBadNumberBadRow, List.forall_mem_cons.mpr ⟨exm_of eCBadRule icBadRule tCBadRule eBadNumberBadRule, List.forall_mem_cons.mpr ⟨exm_of eCBadSum icBadSum tCBadSum eBadNumberBadSum, List.forall_mem_cons.mpr ⟨exm_of eCBadTable icBadTable tCBadTable eBadNumberBadTable, List.forall_mem_cons.mpr ⟨exm_of eCTooMany icTooMany tCTooMany eBadNumberTooMany, List.forall_mem_cons.mpr ⟨exm_of eCUnlike icUnlike tCUnlike eBadNumberUnlike, List.forall_mem_nil _⟩⟩⟩⟩⟩⟩⟩, List.forall_mem_cons.mpr ⟨List.forall_mem_cons.mpr ⟨exm_of eCBadNumber icBadNumber tCBadNumber eBadRowBadNumber, List.forall_mem_cons.mpr ⟨exm_of eCBadRow icBadRow tCBadRow eBadRowBadRow, List.forall_mem_cons.mpr ⟨exm_of eCBadRule icBadRule tCBadRule eBadRowBadRule, List.forall_mem_cons.mpr ⟨exm_of eCBadSum icBadSum tCBadSum eBadRowBadSum, List.forall_mem_cons.mpr ⟨exm_of eCBadTable icBadTable tCBadTable eBadRowBadTable, List.forall_mem_cons.mpr ⟨exm_of eCTooMany icTooMany tCTooMany eBadRowTooMany, List.forall_mem_cons.mpr ⟨exm_of eCUnlike icUnlike tCUnlike eBadRowUnlike, List.forall_mem_nil _⟩⟩⟩⟩⟩⟩⟩, List.forall_mem_cons.mpr ⟨List.forall_mem_cons.mpr ⟨exm_of eCBadNumber icBadNumber tCBadNumber eBadRuleBadNumber, List.forall_mem_cons.mpr ⟨exm_of eCBadRow icBadRow tCBadRow eBadRuleBadRow, List.forall_mem_cons.mpr ⟨exm_of eCBadRule icBadRule tCBadRule eBadRuleBadRule, List.forall_mem_cons.mpr ⟨exm_of eCBadSum icBadSum tCBadSum eBadRuleBadSum, List.forall_mem_cons.mpr ⟨exm_of eCBadTable icBadTable tCBadTable eBadRuleBadTable, List.forall_mem_cons.mpr ⟨exm_of eCTooMany icTooMany tCTooMany eBadRuleTooMany, List.forall_mem_cons.mpr ⟨exm_of eCUnlike icUnlike tCUnlike eBadRuleUnlike, List.forall_mem_nil _⟩⟩⟩⟩⟩⟩⟩, List.forall_mem_cons.mpr ⟨List.forall_mem_cons.mpr ⟨exm_of eCBadNumber icBadNumber tCBadNumber eBadSumBadNumber, List.forall_mem_cons.mpr ⟨exm_of eCBadRow icBadRow tCBadRow eBadSumBadRow, List.forall_mem_cons.mpr ⟨exm_of eCBadRule icBadRule tCBadRule eBadSumBadRule, List.forall_mem_cons.mpr ⟨exm_of eCBadSum icBadSum tCBadSum eBadSumBadSum, List.forall_mem_cons.mpr ⟨exm_of eCBadTable icBadTable tCBadTable eBadSumBadTable, List.forall_mem_cons.mpr ⟨exm_of eCTooMany icTooMany tCTooMany eBadSumTooMany, List.forall_mem_cons.mpr ⟨exm_of eCUnlike icUnlike tCUnlike eBadSumUnlike, List.forall_mem_nil _⟩⟩⟩⟩⟩⟩⟩, List.forall_mem_cons.mpr ⟨List.forall_mem_cons.mpr ⟨exm_of eCBadNumber icBadNumber tCBadNumber eBadTableBadNumber, List.forall_mem_cons.mpr ⟨exm_of eCBadRow icBadRow tCBadRow eBadTableBadRow, List.forall_mem_cons.mpr ⟨exm_of eCBadRule icBadRule tCBadRule eBadTableBadRule, List.forall_mem_cons.mpr ⟨exm_of eCBadSum icBadSum tCBadSum eBadTableBadSum, List.forall_mem_cons.mpr ⟨exm_of eCBadTable icBadTable tCBadTable eBadTableBadTable, List.forall_mem_cons.mpr ⟨exm_of eCTooMany icTooMany tCTooMany eBadTableTooMany, List.forall_mem_cons.mpr ⟨exm_of eCUnlike icUnlike tCUnlike eBadTableUnlike, List.forall_mem_nil _⟩⟩⟩⟩⟩⟩⟩, List.forall_mem_cons.mpr ⟨List.forall_mem_cons.mpr ⟨exm_of eCBadNumber icBadNumber tCBadNumber eTooManyBadNumber, List.forall_mem_cons.mpr ⟨exm_of eCBadRow icBadRow tCBadRow eTooManyBadRow, List.forall_mem_cons.mpr ⟨exm_of eCBadRule icBadRule tCBadRule eTooManyBadRule, List.forall_mem_cons.mpr ⟨exm_of eCBadSum icBadSum tCBadSum eTooManyBadSum, List.forall_mem_cons.mpr ⟨exm_of eCBadTable icBadTable tCBadTable eTooManyBadTable, List.forall_mem_cons.mpr ⟨exm_of eCTooMany icTooMany tCTooMany eTooManyTooMany, List.forall_mem_cons.mpr ⟨exm_of eCUnlike icUnlike tCUnlike eTooManyUnlike, List.forall_mem_nil _⟩⟩⟩⟩⟩⟩⟩, List.forall_mem_cons.mpr ⟨List.forall_mem_cons.mpr ⟨exm_of eCBadNumber icBadNumber tCBadNumber eUnlikeBadNumber, List.forall_mem_cons.mpr ⟨exm_of eCBadRow icBadRow tCBadRow eUnlikeBadRow, List.forall_mem_cons.mpr ⟨exm_of eCBadRule icBadRule tCBadRule eUnlikeBadRule, List.forall_mem_cons.mpr ⟨exm_of eCBadSum icBadSum tCBadSum eUnlikeBadSum, List.forall_mem_cons.mpr ⟨exm_of eCBadTable icBadTable tCBadTable eUnlikeBadTable, List.forall_mem_cons.mpr ⟨exm_of eCTooMany icTooMany tCTooMany eUnlikeTooMany, List.forall_mem_cons.mpr ⟨exm_of eCUnlike icUnlike tCUnlike eUnlikeUnlike, List.forall_mem_nil _⟩⟩⟩⟩⟩⟩⟩, List.forall_mem_nil _⟩⟩⟩⟩⟩⟩⟩,
      gc_BadNumber := PySem.W.mg_of X G aBadNumber,
      x_BadNumber := ⟨gaBadNumber, ggBadNumber, eCBadNumber, hdBadNumber⟩,
      xn_BadNumber_what := nBadNumberwhat,
      xn_BadNumber_number := nBadNumbernumber,
      gc_BadSum := PySem.W.mg_of X G aBadSum,
      x_BadSum := ⟨gaBadSum, ggBadSum, eCBadSum, hdBadSum⟩,
      xn_BadSum_value := nBadSumvalue,
      gc_BadRow := PySem.W.mg_of X G aBadRow,
      x_BadRow := ⟨gaBadRow, ggBadRow, eCBadRow, hdBadRow⟩,
      xn_BadRow_row := nBadRowrow,
      gc_BadTable := PySem.W.mg_of X G aBadTable,
      x_BadTable := ⟨gaBadTable, ggBadTable, eCBadTable, hdBadTable⟩,
      xn_BadTable_table := nBadTabletable,
      gc_BadRule := PySem.W.mg_of X G aBadRule,
      x_BadRule := ⟨gaBadRule, ggBadRule, eCBadRule, hdBadRule⟩,
      xn_BadRule_what := nBadRulewhat,
      xn_BadRule_value := nBadRulevalue,
      gc_Unlike := PySem.W.mg_of X G aUnlike,
      x_Unlike := ⟨gaUnlike, ggUnlike, eCUnlike, hdUnlike⟩,
      xn_Unlike_what := nUnlikewhat,
      gc_TooMany := PySem.W.mg_of X G aTooMany,
      x_TooMany := ⟨gaTooMany, ggTooMany, eCTooMany, hdTooMany⟩,
      xn_TooMany_what := nTooManywhat,
      xn_TooMany_many := nTooManymany,
      xn_TooMany_limit := nTooManylimit }
  have A_is_whole := f_is_whole T
  have A_need_between := f_need_between T A_is_whole
  have A_put_later := f_put_later T
  have A_gauss_rows := f_gauss_rows T A_put_later
  have A_worth_at := f_worth_at T
  have A_power := f_power T
  have A_table_by := f_table_by T A_gauss_rows A_worth_at
  have A_need_table := f_need_table T A_need_between
  have A_gauss_table := f_gauss_table T A_need_table A_table_by
  have A_back_item := f_back_item T A_power
  have A_back_table := f_back_table T A_need_table A_table_by A_back_item
  have A__law_pen := f__law_pen T
  have A__law_draw := f__law_draw T
  have A__law_pick := f__law_pick T A__law_draw
  have A__law_fault := f__law_fault T
  have A__law_is_fault := f__law_is_fault T A__law_fault
  have A__law_gauss := f__law_gauss T
  have A__law_worth := f__law_worth T
  have A__law_power := f__law_power T
  have A__law_product_of := f__law_product_of T
  have hcd : ∀ fd, Fun K "law" "law" s_law (T0.fa 20) fd → fd.code = .ref c := fun fd F => by
    obtain ⟨c1, c2, c3, c4, c5, c6, cdv, c8, c9, rfl, lk, _⟩ := F.ex
    have z := (show K.lookup fa = _ from lk).symm.trans l20
    have z2 := congrArg Obj.data (Option.some.inj z)
    have z3 := Data.func.inj z2
    exact (congrArg FuncData.code z3 : _)
  exact f_law T A__law_pen A__law_draw A__law_gauss A__law_worth A__law_power A_back_table A_gauss_table A__law_product_of A__law_pick A__law_is_fault TB hcd ok
end LX
open PySem PySem.W PyProof.Rows
set_option maxRecDepth 100000 in
set_option maxHeartbeats 0 in
theorem PySem.Challenge.cw_partrules_k25_tables_of_gauss_holds : PySem.Challenge.rw_partrules_k25_tables_of_gauss.Holds := by
  w_on; o_law; k_head; (case hw => w_witness2)
  k_fill
  refine' DL.walkGT (l := PySem.Challenge.rw_partrules_k25_tables_of_gauss) (n := 63) (k := 10) (q := DL.lawQ) (by rfl) (by decide) rfl ⟨rfl, by decide, by decide⟩ (fun w h Y => PySem.W.km_in_of Y) ?hT ?nT ?cd ?F
  case hT => exact fun w h Y => PySem.W.km_tabs_of Y _ List.mem_cons_self
  case F =>
    intro w mg fa h KX G hmg
    refine' LX.all_mk KX G hmg ?a0 ?l0 ?c0 ?k0 ?a1 ?l1 ?c1 ?k1 ?a2 ?l2 ?c2 ?k2 ?a3 ?l3 ?c3 ?k3 ?a4 ?l4 ?c4 ?k4 ?a5 ?l5 ?c5 ?k5 ?a6 ?l6 ?c6 ?k6 ?a7 ?l7 ?c7 ?k7 ?a8 ?l8 ?c8 ?k8 ?a9 ?l9 ?c9 ?k9 ?a10 ?l10 ?c10 ?k10 ?a11 ?l11 ?c11 ?k11 ?a12 ?l12 ?c12 ?k12 ?a13 ?l13 ?c13 ?k13 ?a14 ?l14 ?c14 ?k14 ?a15 ?l15 ?c15 ?k15 ?a16 ?l16 ?c16 ?k16 ?a17 ?l17 ?c17 ?k17 ?a18 ?l18 ?c18 ?k18 ?a19 ?l19 ?c19 ?k19 ?a20 ?l20 ?c20 ?k20 ?aBadNumber ?xBadNumber ?vBadNumber ?saBadNumber ?eCBadNumber ?tCBadNumber ?icBadNumber ?kCBadNumber ?gaBadNumber ?ggBadNumber ?hdBadNumber ?nBadNumberwhat ?nBadNumbernumber ?iBadNumber ?tBadNumber ?lBadNumber ?cBadNumber ?kBadNumber ?aBadSum ?xBadSum ?vBadSum ?saBadSum ?eCBadSum ?tCBadSum ?icBadSum ?kCBadSum ?gaBadSum ?ggBadSum ?hdBadSum ?nBadSumvalue ?iBadSum ?tBadSum ?lBadSum ?cBadSum ?kBadSum ?aBadRow ?xBadRow ?vBadRow ?saBadRow ?eCBadRow ?tCBadRow ?icBadRow ?kCBadRow ?gaBadRow ?ggBadRow ?hdBadRow ?nBadRowrow ?iBadRow ?tBadRow ?lBadRow ?cBadRow ?kBadRow ?aBadTable ?xBadTable ?vBadTable ?saBadTable ?eCBadTable ?tCBadTable ?icBadTable ?kCBadTable ?gaBadTable ?ggBadTable ?hdBadTable ?nBadTabletable ?iBadTable ?tBadTable ?lBadTable ?cBadTable ?kBadTable ?aBadRule ?xBadRule ?vBadRule ?saBadRule ?eCBadRule ?tCBadRule ?icBadRule ?kCBadRule ?gaBadRule ?ggBadRule ?hdBadRule ?nBadRulewhat ?nBadRulevalue ?iBadRule ?tBadRule ?lBadRule ?cBadRule ?kBadRule ?aUnlike ?xUnlike ?vUnlike ?saUnlike ?eCUnlike ?tCUnlike ?icUnlike ?kCUnlike ?gaUnlike ?ggUnlike ?hdUnlike ?nUnlikewhat ?iUnlike ?tUnlike ?lUnlike ?cUnlike ?kUnlike ?aTooMany ?xTooMany ?vTooMany ?saTooMany ?eCTooMany ?tCTooMany ?icTooMany ?kCTooMany ?gaTooMany ?ggTooMany ?hdTooMany ?nTooManywhat ?nTooManymany ?nTooManylimit ?iTooMany ?tTooMany ?lTooMany ?cTooMany ?kTooMany ?aPartError ?spPartError ?rdPartError ?fcPartError ?eBadNumberBadNumber ?eBadNumberBadSum ?eBadNumberBadRow ?eBadNumberBadTable ?eBadNumberBadRule ?eBadNumberUnlike ?eBadNumberTooMany ?eBadSumBadNumber ?eBadSumBadSum ?eBadSumBadRow ?eBadSumBadTable ?eBadSumBadRule ?eBadSumUnlike ?eBadSumTooMany ?eBadRowBadNumber ?eBadRowBadSum ?eBadRowBadRow ?eBadRowBadTable ?eBadRowBadRule ?eBadRowUnlike ?eBadRowTooMany ?eBadTableBadNumber ?eBadTableBadSum ?eBadTableBadRow ?eBadTableBadTable ?eBadTableBadRule ?eBadTableUnlike ?eBadTableTooMany ?eBadRuleBadNumber ?eBadRuleBadSum ?eBadRuleBadRow ?eBadRuleBadTable ?eBadRuleBadRule ?eBadRuleUnlike ?eBadRuleTooMany ?eUnlikeBadNumber ?eUnlikeBadSum ?eUnlikeBadRow ?eUnlikeBadTable ?eUnlikeBadRule ?eUnlikeUnlike ?eUnlikeTooMany ?eTooManyBadNumber ?eTooManyBadSum ?eTooManyBadRow ?eTooManyBadTable ?eTooManyBadRule ?eTooManyUnlike ?eTooManyTooMany ?zall ?zbool ?zenumerate ?zint ?zisinstance ?zlen ?zlist ?zmax ?zrange ?zrepr ?zsum ?ztuple ?zzip ?mMOST_TABLE ?mMOST_DIGIT LX.ok_law
    (case a0 => k_is)
    (case l0 => k_is)
    (case c0 => k_is)
    (case k0 => k_is)
    (case a1 => k_is)
    (case l1 => k_is)
    (case c1 => k_is)
    (case k1 => k_is)
    (case a2 => k_is)
    (case l2 => k_is)
    (case c2 => k_is)
    (case k2 => k_is)
    (case a3 => k_is)
    (case l3 => k_is)
    (case c3 => k_is)
    (case k3 => k_is)
    (case a4 => k_is)
    (case l4 => k_is)
    (case c4 => k_is)
    (case k4 => k_is)
    (case a5 => k_is)
    (case l5 => k_is)
    (case c5 => k_is)
    (case k5 => k_is)
    (case a6 => k_is)
    (case l6 => k_is)
    (case c6 => k_is)
    (case k6 => k_is)
    (case a7 => k_is)
    (case l7 => k_is)
    (case c7 => k_is)
    (case k7 => k_is)
    (case a8 => k_is)
    (case l8 => k_is)
    (case c8 => k_is)
    (case k8 => k_is)
    (case a9 => k_is)
    (case l9 => k_is)
    (case c9 => k_is)
    (case k9 => k_is)
    (case a10 => k_is)
    (case l10 => k_is)
    (case c10 => k_is)
    (case k10 => k_is)
    (case a11 => k_is)
    (case l11 => k_is)
    (case c11 => k_is)
    (case k11 => k_is)
    (case a12 => k_is)
    (case l12 => k_is)
    (case c12 => k_is)
    (case k12 => k_is)
    (case a13 => k_is)
    (case l13 => k_is)
    (case c13 => k_is)
    (case k13 => k_is)
    (case a14 => k_is)
    (case l14 => k_is)
    (case c14 => k_is)
    (case k14 => k_is)
    (case a15 => k_is)
    (case l15 => k_is)
    (case c15 => k_is)
    (case k15 => k_is)
    (case a16 => k_is)
    (case l16 => k_is)
    (case c16 => k_is)
    (case k16 => k_is)
    (case a17 => k_is)
    (case l17 => k_is)
    (case c17 => k_is)
    (case k17 => k_is)
    (case a18 => k_is)
    (case l18 => k_is)
    (case c18 => k_is)
    (case k18 => k_is)
    (case a19 => k_is)
    (case l19 => k_is)
    (case c19 => k_is)
    (case k19 => k_is)
    (case a20 => k_is)
    (case l20 => k_is)
    (case c20 => k_is)
    (case k20 => k_is)
    (case aBadNumber => k_is)
    (case xBadNumber => k_is)
    (case vBadNumber => first | rfl | k_is)
    (case saBadNumber => k_is)
    (case eCBadNumber => first | rfl | k_is)
    (case tCBadNumber => k_is)
    (case icBadNumber => k_is)
    (case kCBadNumber => k_is)
    (case gaBadNumber => k_is)
    (case ggBadNumber => k_is)
    (case hdBadNumber => k_is)
    (case nBadNumberwhat => k_is)
    (case nBadNumbernumber => k_is)
    (case iBadNumber => k_is)
    (case tBadNumber => k_is)
    (case lBadNumber => k_is)
    (case cBadNumber => k_is)
    (case kBadNumber => k_is)
    (case aBadSum => k_is)
    (case xBadSum => k_is)
    (case vBadSum => first | rfl | k_is)
    (case saBadSum => k_is)
    (case eCBadSum => first | rfl | k_is)
    (case tCBadSum => k_is)
    (case icBadSum => k_is)
    (case kCBadSum => k_is)
    (case gaBadSum => k_is)
    (case ggBadSum => k_is)
    (case hdBadSum => k_is)
    (case nBadSumvalue => k_is)
    (case iBadSum => k_is)
    (case tBadSum => k_is)
    (case lBadSum => k_is)
    (case cBadSum => k_is)
    (case kBadSum => k_is)
    (case aBadRow => k_is)
    (case xBadRow => k_is)
    (case vBadRow => first | rfl | k_is)
    (case saBadRow => k_is)
    (case eCBadRow => first | rfl | k_is)
    (case tCBadRow => k_is)
    (case icBadRow => k_is)
    (case kCBadRow => k_is)
    (case gaBadRow => k_is)
    (case ggBadRow => k_is)
    (case hdBadRow => k_is)
    (case nBadRowrow => k_is)
    (case iBadRow => k_is)
    (case tBadRow => k_is)
    (case lBadRow => k_is)
    (case cBadRow => k_is)
    (case kBadRow => k_is)
    (case aBadTable => k_is)
    (case xBadTable => k_is)
    (case vBadTable => first | rfl | k_is)
    (case saBadTable => k_is)
    (case eCBadTable => first | rfl | k_is)
    (case tCBadTable => k_is)
    (case icBadTable => k_is)
    (case kCBadTable => k_is)
    (case gaBadTable => k_is)
    (case ggBadTable => k_is)
    (case hdBadTable => k_is)
    (case nBadTabletable => k_is)
    (case iBadTable => k_is)
    (case tBadTable => k_is)
    (case lBadTable => k_is)
    (case cBadTable => k_is)
    (case kBadTable => k_is)
    (case aBadRule => k_is)
    (case xBadRule => k_is)
    (case vBadRule => first | rfl | k_is)
    (case saBadRule => k_is)
    (case eCBadRule => first | rfl | k_is)
    (case tCBadRule => k_is)
    (case icBadRule => k_is)
    (case kCBadRule => k_is)
    (case gaBadRule => k_is)
    (case ggBadRule => k_is)
    (case hdBadRule => k_is)
    (case nBadRulewhat => k_is)
    (case nBadRulevalue => k_is)
    (case iBadRule => k_is)
    (case tBadRule => k_is)
    (case lBadRule => k_is)
    (case cBadRule => k_is)
    (case kBadRule => k_is)
    (case aUnlike => k_is)
    (case xUnlike => k_is)
    (case vUnlike => first | rfl | k_is)
    (case saUnlike => k_is)
    (case eCUnlike => first | rfl | k_is)
    (case tCUnlike => k_is)
    (case icUnlike => k_is)
    (case kCUnlike => k_is)
    (case gaUnlike => k_is)
    (case ggUnlike => k_is)
    (case hdUnlike => k_is)
    (case nUnlikewhat => k_is)
    (case iUnlike => k_is)
    (case tUnlike => k_is)
    (case lUnlike => k_is)
    (case cUnlike => k_is)
    (case kUnlike => k_is)
    (case aTooMany => k_is)
    (case xTooMany => k_is)
    (case vTooMany => first | rfl | k_is)
    (case saTooMany => k_is)
    (case eCTooMany => first | rfl | k_is)
    (case tCTooMany => k_is)
    (case icTooMany => k_is)
    (case kCTooMany => k_is)
    (case gaTooMany => k_is)
    (case ggTooMany => k_is)
    (case hdTooMany => k_is)
    (case nTooManywhat => k_is)
    (case nTooManymany => k_is)
    (case nTooManylimit => k_is)
    (case iTooMany => k_is)
    (case tTooMany => k_is)
    (case lTooMany => k_is)
    (case cTooMany => k_is)
    (case kTooMany => k_is)
    (case aPartError => k_is)
    (case spPartError => k_is)
    (case rdPartError => k_is)
    (case fcPartError => k_is)
    (case eBadNumberBadNumber => first | rfl | k_is)
    (case eBadNumberBadSum => first | rfl | k_is)
    (case eBadNumberBadRow => first | rfl | k_is)
    (case eBadNumberBadTable => first | rfl | k_is)
    (case eBadNumberBadRule => first | rfl | k_is)
    (case eBadNumberUnlike => first | rfl | k_is)
    (case eBadNumberTooMany => first | rfl | k_is)
    (case eBadSumBadNumber => first | rfl | k_is)
    (case eBadSumBadSum => first | rfl | k_is)
    (case eBadSumBadRow => first | rfl | k_is)
    (case eBadSumBadTable => first | rfl | k_is)
    (case eBadSumBadRule => first | rfl | k_is)
    (case eBadSumUnlike => first | rfl | k_is)
    (case eBadSumTooMany => first | rfl | k_is)
    (case eBadRowBadNumber => first | rfl | k_is)
    (case eBadRowBadSum => first | rfl | k_is)
    (case eBadRowBadRow => first | rfl | k_is)
    (case eBadRowBadTable => first | rfl | k_is)
    (case eBadRowBadRule => first | rfl | k_is)
    (case eBadRowUnlike => first | rfl | k_is)
    (case eBadRowTooMany => first | rfl | k_is)
    (case eBadTableBadNumber => first | rfl | k_is)
    (case eBadTableBadSum => first | rfl | k_is)
    (case eBadTableBadRow => first | rfl | k_is)
    (case eBadTableBadTable => first | rfl | k_is)
    (case eBadTableBadRule => first | rfl | k_is)
    (case eBadTableUnlike => first | rfl | k_is)
    (case eBadTableTooMany => first | rfl | k_is)
    (case eBadRuleBadNumber => first | rfl | k_is)
    (case eBadRuleBadSum => first | rfl | k_is)
    (case eBadRuleBadRow => first | rfl | k_is)
    (case eBadRuleBadTable => first | rfl | k_is)
    (case eBadRuleBadRule => first | rfl | k_is)
    (case eBadRuleUnlike => first | rfl | k_is)
    (case eBadRuleTooMany => first | rfl | k_is)
    (case eUnlikeBadNumber => first | rfl | k_is)
    (case eUnlikeBadSum => first | rfl | k_is)
    (case eUnlikeBadRow => first | rfl | k_is)
    (case eUnlikeBadTable => first | rfl | k_is)
    (case eUnlikeBadRule => first | rfl | k_is)
    (case eUnlikeUnlike => first | rfl | k_is)
    (case eUnlikeTooMany => first | rfl | k_is)
    (case eTooManyBadNumber => first | rfl | k_is)
    (case eTooManyBadSum => first | rfl | k_is)
    (case eTooManyBadRow => first | rfl | k_is)
    (case eTooManyBadTable => first | rfl | k_is)
    (case eTooManyBadRule => first | rfl | k_is)
    (case eTooManyUnlike => first | rfl | k_is)
    (case eTooManyTooMany => first | rfl | k_is)
    (case zall => k_is)
    (case zbool => k_is)
    (case zenumerate => k_is)
    (case zint => k_is)
    (case zisinstance => k_is)
    (case zlen => k_is)
    (case zlist => k_is)
    (case zmax => k_is)
    (case zrange => k_is)
    (case zrepr => k_is)
    (case zsum => k_is)
    (case ztuple => k_is)
    (case zzip => k_is)
    (case mMOST_TABLE => k_is)
    (case mMOST_DIGIT => k_is)
  case nT => intro w; first | rfl | kernel_rfl | k_is
  case cd => intro w; first | kernel_rfl | k_is

